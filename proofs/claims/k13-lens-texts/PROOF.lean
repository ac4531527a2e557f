import PyProof.Rows.All
import Wide.All
import OpenK.AllK
import Wide.FinOn
import PySem.Challenge.RW_textsputback_k13_lens_texts
import HandS.TupAny
import KE.OsSetLaws
import HandS.ForMost
import HandS.ForExc
import HandS.IsInst
import HandS.Style
import HandS.Property
import HandS.Codes
import HandS.Star
import HandS.CallSlots
import HandS.WordsExc
import HandS.ExcIs
import HandS.ExcInit
import HandS.SortInts
import HandS.DictComp
import HandS.TupLen
import HandS.Conv
import HandS.ListItems
import HandS.Walk
import HandS.Defaults
import HandS.MakeKwOnly
import HandS.MakeKw
import HandS.Zip
import KE.KDictKeyed
import KE.GoesMore
import PyProof.EnumMake
import PyProof.Draws
import HandS.HeadHook3
import HandS.Replace
import HandS.SortOrd
import PyProof.CollectStr
import PyProof.ListStr
import HandS.HotCalls
set_option Elab.async false
set_option linter.all false
set_option maxRecDepth 100000
set_option maxHeartbeats 400000
/-! ### my short words for readings -/
namespace Gx
open PySem PySem.Spec PyProof.Rows L2
section
variable {σ : L2.St} {H : Hp} {Q : VK} {D : Ends} {ta tb te : TE} {t u : TS} {x y v : V} {K : PySem.W.Frag}
theorem seq (h : t { D with nx := u D } σ H) : tSeq t u D σ H := h
theorem nx {n : L2.St → Hp → Prop} {r : VK} {b c : L2.St → Hp → Prop} (h : n σ H) : Ends.nx ⟨n, r, b, c⟩ σ H := h
theorem rt {n : L2.St → Hp → Prop} {r : VK} {b c : L2.St → Hp → Prop} (h : r v H) : Ends.rt ⟨n, r, b, c⟩ v H := h
theorem bk {n : L2.St → Hp → Prop} {r : VK} {b c : L2.St → Hp → Prop} (h : b σ H) : Ends.bk ⟨n, r, b, c⟩ σ H := h
theorem ct {n : L2.St → Hp → Prop} {r : VK} {b c : L2.St → Hp → Prop} (h : c σ H) : Ends.ct ⟨n, r, b, c⟩ σ H := h
theorem next (h : D.nx σ H) : tNext D σ H := h
theorem brk (h : D.bk σ H) : tBreak D σ H := h
theorem cont (h : D.ct σ H) : tCont D σ H := h
theorem asg {g : TG} (h : te σ H fun x H1 => g x σ H1 D.nx) : tAsg te g D σ H := h
theorem ret (h : te σ H D.rt) : tRet te D σ H := h
theorem retN (h : D.rt .non H) : tRetN D σ H := h
theorem drop (h : te σ H fun _ H1 => D.nx σ H1) : tDrop te D σ H := h
theorem ifs {c : TT} (h : c σ H fun b H1 => if b = true then t D σ H1 else u D σ H1) : tIfS c t u D σ H := h
theorem var {i : Nat} (e : σ[i]? = some (some v)) (h : Q v H) : tVar i σ H Q := ⟨v, e, h⟩
theorem con (h : Q v H) : tC v σ H Q := h
theorem op {r : R2} (h : ta σ H fun x H1 => tb σ H1 fun y H2 => r x y H2 Q) : tOp r ta tb σ H Q := h
theorem un {r : V → Hp → VK → Prop} (h : ta σ H fun x H1 => r x H1 Q) : tUn r ta σ H Q := h
theorem i0 {g : Int → Int → V} {i j : Int} (h : Q (g i j) H) : rI0 g (.int i) (.int j) H Q := ⟨i, j, rfl, rfl, h⟩
theorem i1 {C : Int → Int → Prop} {g : Int → Int → V} {i j : Int} (c : C i j) (h : Q (g i j) H) : rI C g (.int i) (.int j) H Q := ⟨i, j, rfl, rfl, c, h⟩
theorem iu {g : Int → V} {i : Int} (h : Q (g i) H) : rU g (.int i) H Q := ⟨i, rfl, h⟩
theorem eqI {i j : Int} (h : Q (.bl (decide (i = j))) H) : rEq (.int i) (.int j) H Q := ⟨rfl, by rw [show decide (V.int i = V.int j) = decide (i = j) from by simp]; exact h⟩
theorem eqS {i j : Str} (h : Q (.bl (decide (i = j))) H) : rEq (.str i) (.str j) H Q := ⟨rfl, by rw [show decide (V.str i = V.str j) = decide (i = j) from by simp]; exact h⟩
theorem eqB {i j : Bool} (h : Q (.bl (decide (i = j))) H) : rEq (.bl i) (.bl j) H Q := ⟨rfl, by rw [show decide (V.bl i = V.bl j) = decide (i = j) from by simp]; exact h⟩
theorem neI {i j : Int} (h : Q (.bl (!decide (i = j))) H) : rNe (.int i) (.int j) H Q := ⟨rfl, by rw [show decide (V.int i = V.int j) = decide (i = j) from by simp]; exact h⟩
theorem neS {i j : Str} (h : Q (.bl (!decide (i = j))) H) : rNe (.str i) (.str j) H Q := ⟨rfl, by rw [show decide (V.str i = V.str j) = decide (i = j) from by simp]; exact h⟩
theorem isB {a b : Bool} (h : Q (.bl (decide (a = b))) H) : rIsB (.bl a) (.bl b) H Q := ⟨a, b, rfl, rfl, h⟩
theorem name {i : Nat} {N : L2.St → Hp → Prop} (h : N (σ.set i (some v)) H) : gName i v σ H N := h
theorem test {Q : Bool → Hp → Prop} (h : te σ H fun x H' => ∃ k, x = .bl k ∧ Q k H') : tTest te σ H Q := h
theorem tB {Q : Bool → Hp → Prop} (h : te σ H fun x H' => ∃ k, x = .bl k ∧ Q k H') : tB te σ H Q := h
theorem exb {b : Bool} {p : Bool → Prop} (h : p b) : ∃ k, V.bl b = .bl k ∧ p k := ⟨b, rfl, h⟩
theorem exi {b : Int} {p : Int → Prop} (h : p b) : ∃ k, V.int b = .int k ∧ p k := ⟨b, rfl, h⟩
theorem exs {b : Str} {p : Str → Prop} (h : p b) : ∃ k, V.str b = .str k ∧ p k := ⟨b, rfl, h⟩
theorem exr {b : Addr} {p : Addr → Prop} (h : p b) : ∃ k, V.ref b = .ref k ∧ p k := ⟨b, rfl, h⟩
theorem not {c : TT} {Q : Bool → Hp → Prop} (h : c σ H fun b H1 => Q (!b) H1) : tNot c σ H Q := h
theorem and {c d : TT} {Q : Bool → Hp → Prop} (h : c σ H fun b H1 => if b = true then d σ H1 Q else Q false H1) : tAnd c d σ H Q := h
theorem or {c d : TT} {Q : Bool → Hp → Prop} (h : c σ H fun b H1 => if b = true then Q true H1 else d σ H1 Q) : tOr c d σ H Q := h
theorem notV (h : te σ H fun x H1 => ∃ c, x = .bl c ∧ Q (.bl (!c)) H1) : tNotV te σ H Q := h
theorem andV (h : ta σ H fun x H1 => ∃ c, x = .bl c ∧ if c = true then tb σ H1 Q else Q (.bl false) H1) : tAndV ta tb σ H Q := h
theorem orV (h : ta σ H fun x H1 => ∃ c, x = .bl c ∧ if c = true then Q (.bl true) H1 else tb σ H1 Q) : tOrV ta tb σ H Q := h
theorem ifE {c : TT} (h : c σ H fun b H1 => if b = true then ta σ H1 Q else tb σ H1 Q) : tIf c ta tb σ H Q := h
theorem cb {r : List V → Hp → VK → Prop} {t : TA} (h : t σ H fun vs H1 => r vs H1 Q) : tCB r t σ H Q := h
theorem anil {Q : List V → Hp → Prop} (h : Q [] H) : tNil σ H Q := h
theorem acons {tr : TA} {Q : List V → Hp → Prop} (h : te σ H fun x H1 => tr σ H1 fun xs H2 => Q (x :: xs) H2) : tCons te tr σ H Q := h
def CallK (sp : Sp) (dvs : List V) (E : XK) (vs : List V) (H : Hp) (Q : VK) : Prop := sp (vs ++ dvs) H Q E
theorem call {sp : Sp} {dvs : List V} {E : XK} {t : TA} (h : t σ H fun vs H1 => CallK sp dvs E vs H1 Q) : tCall sp dvs E t σ H Q := h
theorem call0 {sp : Sp} {E : XK} {vs : List V} (h : sp vs H Q E) : CallK sp [] E vs H Q := by
  unfold CallK
  rw [List.append_nil]
  exact h
/-- a new tuple, a new list is laid -/
def NewT (xs : List V) (H : Hp) (Q : VK) : Prop := xs.length ≤ sizeLine ∧ ∀ p, H p = none → Q (.ref p) (upd H p (.tup xs))
def NewL (xs : List V) (H : Hp) (Q : VK) : Prop := xs.length ≤ sizeLine ∧ ∀ p, H p = none → Q (.ref p) (upd H p (.lst xs))
theorem tup {t : TA} (h : t σ H fun xs H1 => NewT xs H1 Q) : tTup t σ H Q := h
theorem lst {t : TA} (h : t σ H fun xs H1 => NewL xs H1 Q) : tLst t σ H Q := h
theorem sl {r : V → Option Int → Option Int → Hp → VK → Prop} {tl th : TO} (h : te σ H fun x H1 => tl σ H1 fun l H2 => th σ H2 fun u H3 => r x l u H3 Q) : tSl r te tl th σ H Q := h
theorem nopart {Q : Option Int → Hp → Prop} (h : Q none H) : tNoPart σ H Q := h
theorem part {Q : Option Int → Hp → Prop} (h : te σ H fun x H1 => ∃ i, x = .int i ∧ Q (some i) H1) : tPart te σ H Q := h
theorem slS {z : Str} {lo hi : Option Int} (e : z.length ≤ sizeLine) (h : Q (.str (cutS z lo hi)) H) : rSlS (.str z) lo hi H Q := ⟨z, rfl, e, h⟩
theorem slL {a : Addr} {xs : List V} {lo hi : Option Int} (e : SqL K H a xs) (h : ∀ p, H p = none → Q (.ref p) (upd H p (.lst (cutV xs lo hi)))) : rSlL K (.ref a) lo hi H Q := ⟨a, xs, rfl, e, h⟩
theorem aug {i : Nat} {ti : TIp} (e : σ[i]? = some (some x)) (h : te σ H fun y H1 => ti x y H1 fun z H2 => D.nx (σ.set i (some z)) H2) : tAug i te ti D σ H := ⟨x, e, h⟩
theorem ipi {f : Int → Int → Int} {i j : Int} (h : Q (.int (f i j)) H) : ipI f (.int i) (.int j) H Q := ⟨i, j, rfl, rfl, h⟩
/-! built-ins by name -/
def rLenS : List V → Hp → VK → Prop := fun xs H Q => ∃ z, xs = [.str z] ∧ z.length ≤ sizeLine ∧ Q (.int z.length) H
def rLenQ (K : PySem.W.Frag) : List V → Hp → VK → Prop := fun xs H Q => ∃ p ys, xs = [.ref p] ∧ (SqL K H p ys ∨ SqT K H p ys) ∧ Q (.int ys.length) H
def rAbs : List V → Hp → VK → Prop := fun xs H Q => ∃ i, xs = [.int i] ∧ Q (.int (if i < 0 then -i else i)) H
def rMin2 : List V → Hp → VK → Prop := fun xs H Q => ∃ i j, xs = [.int i, .int j] ∧ Q (.int (if j < i then j else i)) H
def rMax2 : List V → Hp → VK → Prop := fun xs H Q => ∃ i j, xs = [.int i, .int j] ∧ Q (.int (if j > i then j else i)) H
def rInt1 : List V → Hp → VK → Prop := fun xs H Q => (∃ i, xs = [.int i] ∧ Q (.int i) H) ∨ ∃ k, xs = [.bl k] ∧ Q (.int (if k then 1 else 0)) H
def rAddS : R2 := fun x y H Q => ∃ i j, x = .str i ∧ y = .str j ∧ i.length + j.length ≤ sizeLine ∧ Q (.str (i ++ j)) H
theorem addS {i j : Str} (c : i.length + j.length ≤ sizeLine) (h : Q (.str (i ++ j)) H) : rAddS (.str i) (.str j) H Q := ⟨i, j, rfl, rfl, c, h⟩
theorem lenS {z : Str} (c : z.length ≤ sizeLine) (h : Q (.int z.length) H) : rLenS [.str z] H Q := ⟨z, rfl, c, h⟩
theorem lenL {p : Addr} {xs : List V} (c : SqL K H p xs) (h : Q (.int xs.length) H) : rLenQ K [.ref p] H Q := ⟨p, xs, rfl, .inl c, h⟩
theorem lenT {p : Addr} {xs : List V} (c : SqT K H p xs) (h : Q (.int xs.length) H) : rLenQ K [.ref p] H Q := ⟨p, xs, rfl, .inr c, h⟩
theorem abs {i : Int} (h : Q (.int (if i < 0 then -i else i)) H) : rAbs [.int i] H Q := ⟨i, rfl, h⟩
theorem min2 {i j : Int} (h : Q (.int (if j < i then j else i)) H) : rMin2 [.int i, .int j] H Q := ⟨i, j, rfl, h⟩
theorem max2 {i j : Int} (h : Q (.int (if j > i then j else i)) H) : rMax2 [.int i, .int j] H Q := ⟨i, j, rfl, h⟩
theorem int1 {i : Int} (h : Q (.int i) H) : rInt1 [.int i] H Q := .inl ⟨i, rfl, h⟩
theorem ixL {p : Addr} {xs : List V} {i : Int} (c : SqL K H p xs) (a : atI xs i = some v) (h : Q v H) : rIxL K (.ref p) (.int i) H Q := ⟨p, xs, i, v, rfl, rfl, c, a, h⟩
theorem atI_map {α : Type} {f : α → V} {xs : List α} {d : α} {i : Int} (h0 : 0 ≤ i) (h1 : i < xs.length) : atI (xs.map f) i = some (f (xs.getD i.toNat d)) := by
  have e : i = ((i.toNat : Nat) : Int) := by omega
  have h2 : i.toNat < xs.length := by omega
  rw [e]
  refine atI_nat ?_
  rw [List.getElem?_map, Int.toNat_natCast, List.getElem?_eq_getElem h2, List.getD_eq_getElem?_getD, List.getElem?_eq_getElem h2]
  rfl
theorem ixLI {p : Addr} {xs : List Int} {i : Int} (c : SqL K H p (xs.map V.int)) (h0 : 0 ≤ i) (h1 : i < xs.length) (h : Q (.int (xs.getD i.toNat 0)) H) : rIxL K (.ref p) (.int i) H Q := ⟨p, _, i, _, rfl, rfl, c, atI_map h0 h1, h⟩
theorem lenLm {α : Type} {f : α → V} {p : Addr} {xs : List α} (c : SqL K H p (xs.map f)) (h : Q (.int xs.length) H) : rLenQ K [.ref p] H Q := ⟨p, _, rfl, .inl c, by rw [List.length_map]; exact h⟩
theorem lenTm {α : Type} {f : α → V} {p : Addr} {xs : List α} (c : SqT K H p (xs.map f)) (h : Q (.int xs.length) H) : rLenQ K [.ref p] H Q := ⟨p, _, rfl, .inr c, by rw [List.length_map]; exact h⟩
theorem ixT {p : Addr} {xs : List V} {i : Int} (c : SqT K H p xs) (a : atI xs i = some v) (h : Q v H) : rIxT K (.ref p) (.int i) H Q := ⟨p, xs, i, v, rfl, rfl, c, a, h⟩
theorem ixS {z : Str} {i : Int} {c : Nat} (l : z.length ≤ sizeLine) (a : atI z.cps.toList i = some c) (h : Q (.str ⟨#[c]⟩) H) : rIxS (.str z) (.int i) H Q := ⟨z, i, c, rfl, rfl, l, a, h⟩
theorem bm {T : String} {r : V → List V → Hp → VK → Prop} {t : TA} (h : ta σ H fun x H1 => tyV K T x H1 ∧ t σ H1 fun xs H2 => r x xs H2 Q) : tBM K T r ta t σ H Q := h
theorem bm0 {T : String} {r : V → List V → Hp → VK → Prop} (h : ta σ H fun x H1 => tyV K T x H1 ∧ r x [] H1 Q) : tBM0 K T r ta σ H Q := h
theorem tyL {p : Addr} {xs : List V} {A : Prop} (e : H p = some (.lst xs)) (h : A) : tyV K "list" (.ref p) H ∧ A := ⟨.inl ⟨rfl, _, .inl (.inl e)⟩, h⟩
theorem app {p : Addr} {xs : List V} (e : H p = some (.lst xs)) (c : xs.length < sizeLine) (h : Q .non (upd H p (.lst (xs ++ [y])))) : rAppend (.ref p) [y] H Q := ⟨p, xs, y, rfl, rfl, e, c, h⟩
theorem appI {p : Addr} {xs : List Int} {z : Int} (e : H p = some (.lst (xs.map V.int))) (c : xs.length < 16777216) (h : Q .non (upd H p (.lst ((xs ++ [z]).map V.int)))) : rAppend (.ref p) [.int z] H Q := ⟨p, _, _, rfl, rfl, e, by rw [List.length_map, sizeLine_eq]; exact c, by rw [List.map_append] at h; exact h⟩
theorem appS {p : Addr} {xs : List Str} {z : Str} (e : H p = some (.lst (xs.map V.str))) (c : xs.length < 16777216) (h : Q .non (upd H p (.lst ((xs ++ [z]).map V.str)))) : rAppend (.ref p) [.str z] H Q := ⟨p, _, _, rfl, rfl, e, by rw [List.length_map, sizeLine_eq]; exact c, by rw [List.map_append] at h; exact h⟩
theorem appR {p : Addr} {xs : List Addr} {z : Addr} (e : H p = some (.lst (xs.map V.ref))) (c : xs.length < 16777216) (h : Q .non (upd H p (.lst ((xs ++ [z]).map V.ref)))) : rAppend (.ref p) [.ref z] H Q := ⟨p, _, _, rfl, rfl, e, by rw [List.length_map, sizeLine_eq]; exact c, by rw [List.map_append] at h; exact h⟩
theorem for_ {wi : TI} {g : TG} (h : wi σ H fun J H1 => ∃ W : Nat → Nat → L2.St → Hp → Prop, (∃ m, W 0 m σ H1) ∧ ∀ i m σ H, W i m σ H →
  (J.stop i H ∧ D.nx σ H) ∨ (J.go i H ∧ ∃ N : L2.St → Hp → Prop, (∀ σ' H', N σ' H' → ∃ m', m' < m ∧ W (i + 1) m' σ' H') ∧ ∀ x H', J.yld i H x H' → g x σ H' fun σ2 H2 => t { D with nx := N, ct := N, bk := D.nx } σ2 H2)) : tFor wi g t D σ H := h
theorem rng1 {tas : TA} {R : It → Hp → Prop} (h : tas σ H fun vs H1 => ∃ j : Int, vs = [.int j] ∧ -(2 ^ 62) ≤ j ∧ j < 2 ^ 62 ∧ R (Itr 0 j.toNat) H1) : iRng1 tas σ H R := h
theorem rng2 {tas : TA} {R : It → Hp → Prop} (h : tas σ H fun vs H1 => ∃ i j : Int, vs = [.int i, .int j] ∧ (-(2 ^ 62) ≤ i ∧ i < 2 ^ 62 ∧ -(2 ^ 62) ≤ j ∧ j < 2 ^ 62) ∧ R (Itr i (j - i).toNat) H1) : iRng2 tas σ H R := h
theorem ilst {R : It → Hp → Prop} (h : te σ H fun x H1 => ∃ a, x = .ref a ∧ (∃ xs, SqL K H1 a xs) ∧ R (Itl K a) H1) : iList K te σ H R := h
theorem itup {R : It → Hp → Prop} (h : te σ H fun x H1 => ∃ a, x = .ref a ∧ (∃ xs, SqT K H1 a xs) ∧ R (Itt K a) H1) : iTup K te σ H R := h
theorem lc {wi : TI} {g : TG} {tt : TT} {vs : List Nat} (h : wi σ H fun J H1 => ∀ D, H1 D = none → ∃ W : Nat → Nat → Hp → Prop, (∃ m, W 0 m (upd H1 D (.lst []))) ∧ ∀ i m H, W i m H →
  (J.stop i H ∧ Q (.ref D) H) ∨ (J.go i H ∧ ∃ Nx : Hp → Prop, (∀ H', Nx H' → ∃ m', m' < m ∧ W (i + 1) m' H') ∧ ∀ x H', J.yld i H x H' → g x (wipe σ vs) H' fun σ2 H2 => wipe σ2 vs = wipe σ vs ∧ tt σ2 H2 fun b H3 =>
    if b = true then te σ2 H3 fun y H4 => ∃ acc, H4 D = some (.lst acc) ∧ acc.length < sizeLine ∧ Nx (upd H4 D (.lst (acc ++ [y]))) else Nx H3)) : tLc wi g tt te vs σ H Q := h
theorem yes {Q : Bool → Hp → Prop} (h : Q true H) : tYes σ H Q := h
/-- a new object: the heap behind it by what is known of it -/
structure Ext1 (H H1 : Hp) (p : Addr) (o : HO) : Prop where
  fresh : H p = none
  same : Same H H1
  at_ : H1 p = some o
  off : ∀ b, b ≠ p → H1 b = H b
theorem new {o : HO} {R : Addr → Hp → Prop} (h : ∀ p H1, Ext1 H H1 p o → R p H1) : ∀ p, H p = none → R p (upd H p o) := fun p np =>
  h p _ ⟨np, fun b u e => by rw [upd_ne (ne_of_none e np)]; exact e, upd_same, fun b hb => upd_ne hb⟩
theorem ext1 {p : Addr} {o : HO} (np : H p = none) : Ext1 H (upd H p o) p o := ⟨np, fun b u e => by rw [upd_ne (ne_of_none e np)]; exact e, upd_same, fun b hb => upd_ne hb⟩
theorem newL {xs : List V} (c : xs.length ≤ 16777216) (h : ∀ p H1, Ext1 H H1 p (.lst xs) → Q (.ref p) H1) : NewL xs H Q := ⟨by rw [sizeLine_eq]; exact c, fun p np => h p _ (ext1 np)⟩
theorem newT {xs : List V} (c : xs.length ≤ 16777216) (h : ∀ p H1, Ext1 H H1 p (.tup xs) → Q (.ref p) H1) : NewT xs H Q := ⟨by rw [sizeLine_eq]; exact c, fun p np => h p _ (ext1 np)⟩
theorem slL1 {a : Addr} {xs : List V} {lo hi : Option Int} (e : SqL K H a xs) (h : ∀ p H1, Ext1 H H1 p (.lst (cutV xs lo hi)) → Q (.ref p) H1) : rSlL K (.ref a) lo hi H Q := ⟨a, xs, rfl, e, fun p np => h p _ (ext1 np)⟩
theorem cat1 {a b : Addr} {xs ys : List V} (e1 : H a = some (.lst xs)) (e2 : H b = some (.lst ys)) (c : xs.length + ys.length ≤ 16777216) (h : ∀ p H1, Ext1 H H1 p (.lst (xs ++ ys)) → Q (.ref p) H1) : rCat (.ref a) (.ref b) H Q :=
  ⟨a, b, xs, ys, rfl, rfl, e1, e2, by rw [sizeLine_eq]; exact c, fun p np => h p _ (ext1 np)⟩
/-- a new list or tuple is displayed -/
theorem newD {n : Nat} {o : HO} {R : Addr → Hp → Prop} (c : n ≤ sizeLine) (h : ∀ p H1, Ext1 H H1 p o → R p H1) : n ≤ sizeLine ∧ ∀ p, H p = none → R p (upd H p o) := ⟨c, new h⟩
/-- an object that H0 does not know is written -/
theorem Same.put {H0 H1 : Hp} {p : Addr} {o : HO} (s : Same H0 H1) (n : H0 p = none) : Same H0 (upd H1 p o) := fun b u e => by rw [upd_ne (ne_of_none e n)]; exact s b u e
theorem made_same {H H' : Hp} {x dx C : Addr} {fs : List (Str × V)} (nx : H x = none) (ndx : H dx = none) (off : ∀ b, b ≠ x → H' b = (upd (upd H dx (.own x)) x (.ins C dx fs)) b) : Same H H' := fun b o e => by
  rw [off b (ne_of_none e nx), upd_ne (ne_of_none e nx), upd_ne (ne_of_none e ndx)]
  exact e
theorem and2 {p1 p2 : Prop} [Decidable p1] [Decidable p2] {tb : TE} (hb : p1 → ∀ Q' : VK, Q' (.bl (decide p2)) H → tb σ H Q') (h : Q (.bl (decide (p1 ∧ p2))) H) : if decide p1 = true then tb σ H Q else Q (.bl false) H := by
  by_cases h1 : p1
  · rw [decide_eq_true h1]
    refine hb h1 _ ?_
    rw [show decide (p1 ∧ p2) = decide p2 from decide_eq_decide.mpr ⟨fun h => h.2, fun h => ⟨h1, h⟩⟩] at h
    exact h
  · rw [decide_eq_false h1]
    rw [show decide (p1 ∧ p2) = false from decide_eq_false fun z => h1 z.1] at h
    exact h
theorem and3 {p1 p2 p3 : Prop} [Decidable p1] [Decidable p2] [Decidable p3] {tb tc : TE} (hb : p1 → ∀ Q' : VK, Q' (.bl (decide p2)) H → tb σ H Q') (hc : p1 → p2 → ∀ Q' : VK, Q' (.bl (decide p3)) H → tc σ H Q')
    (h : Q (.bl (decide (p1 ∧ p2 ∧ p3))) H) : if decide p1 = true then tAndV tb tc σ H Q else Q (.bl false) H :=
  and2 (p2 := p2 ∧ p3) (fun h1 Q' q => hb h1 _ ⟨_, rfl, and2 (hc h1) q⟩) h
theorem ok2 : (2 : Int) ^ 62 = 4611686018427387904 := by decide
theorem iteD {p : Prop} [Decidable p] {A B : Prop} (h1 : p → A) (h2 : ¬ p → B) : if decide p = true then A else B := by
  by_cases h : p
  · rw [decide_eq_true h]; exact h1 h
  · rw [decide_eq_false h]; exact h2 h
theorem iteDn {p : Prop} [Decidable p] {A B : Prop} (h1 : ¬ p → A) (h2 : p → B) : if (!decide p) = true then A else B := by
  by_cases h : p
  · rw [decide_eq_true h]; exact h2 h
  · rw [decide_eq_false h]; exact h1 h
theorem iteB {b : Bool} {A B : Prop} (h1 : b = true → A) (h2 : b = false → B) : if b = true then A else B := by
  cases b
  · exact h2 rfl
  · exact h1 rfl
theorem iteNB {b : Bool} {A B : Prop} (h1 : b = false → A) (h2 : b = true → B) : if (!b) = true then A else B := by
  cases b
  · exact h1 rfl
  · exact h2 rfl
theorem cmulR {i j : Int} (h1 : -18446744073709551616 < j) (h2 : j < 18446744073709551616) : CMul i j := .inr ⟨by simpa using h1, by simpa using h2⟩
theorem cmulL {i j : Int} (h1 : -18446744073709551616 < i) (h2 : i < 18446744073709551616) : CMul i j := .inl ⟨by simpa using h1, by simpa using h2⟩
theorem cdiv {i j : Int} (h1 : 0 < j) (h2 : j < 1073741824) : CDiv i j := ⟨h1, h2⟩
theorem cpow {i j : Int} (h1 : 0 ≤ j) (h2 : j ≤ 1000000) (h3 : i.natAbs < 18446744073709551616) : CPow i j := ⟨h1, h2, by simpa using h3⟩
theorem line {n : Nat} (h : n ≤ 16777216) : n ≤ sizeLine := by rw [sizeLine_eq]; exact h
theorem lineL {n : Nat} (h : n < 16777216) : n < sizeLine := by rw [sizeLine_eq]; exact h
theorem itT {A B : Prop} (h : A) : if true = true then A else B := h
theorem itNtt {A B : Prop} (h : B) : if (!(true == true)) = true then A else B := h
theorem itNff {A B : Prop} (h : B) : if (!(false == false)) = true then A else B := h
theorem ittt {A B : Prop} (h : A) : if (true == true) = true then A else B := h
theorem itff {A B : Prop} (h : A) : if (false == false) = true then A else B := h
theorem itNF {A B : Prop} (h : A) : if (!false) = true then A else B := h
theorem itNT {A B : Prop} (h : B) : if (!true) = true then A else B := h
theorem itF {A B : Prop} (h : B) : if false = true then A else B := h
def rIsN : R2 := fun x y H Q => y = .non ∧ Q (.bl (decide (x = .non))) H
def rNotN : R2 := fun x y H Q => y = .non ∧ Q (.bl (!decide (x = .non))) H
theorem isNn (h : Q (.bl true) H) : rIsN .non .non H Q := ⟨rfl, h⟩
theorem isNi {i : Int} (h : Q (.bl false) H) : rIsN (.int i) .non H Q := ⟨rfl, h⟩
theorem isNs {i : Str} (h : Q (.bl false) H) : rIsN (.str i) .non H Q := ⟨rfl, h⟩
theorem isNb {i : Bool} (h : Q (.bl false) H) : rIsN (.bl i) .non H Q := ⟨rfl, h⟩
theorem isNr {i : Addr} (h : Q (.bl false) H) : rIsN (.ref i) .non H Q := ⟨rfl, h⟩
theorem notNn (h : Q (.bl false) H) : rNotN .non .non H Q := ⟨rfl, h⟩
theorem notNi {i : Int} (h : Q (.bl true) H) : rNotN (.int i) .non H Q := ⟨rfl, h⟩
theorem notNs {i : Str} (h : Q (.bl true) H) : rNotN (.str i) .non H Q := ⟨rfl, h⟩
theorem notNb {i : Bool} (h : Q (.bl true) H) : rNotN (.bl i) .non H Q := ⟨rfl, h⟩
theorem notNr {i : Addr} (h : Q (.bl true) H) : rNotN (.ref i) .non H Q := ⟨rfl, h⟩
variable {X : Cx}
theorem op_isNG : OpR X (compareOp .Is) rIsN := op_isN
theorem op_notNG : OpR X (compareOp .IsNot) rNotN := op_notN
theorem cr_lenS : CallR X (.builtin "len") rLenS := call_len_str
theorem cr_lenQ : CallR X (.builtin "len") (rLenQ X.K) := call_len_seq
theorem cr_abs : CallR X (.builtin "abs") rAbs := call_abs
theorem cr_min2 (hc : X.calm = true) : CallR X (.builtin "min") rMin2 := call_min2 hc
theorem cr_max2 (hc : X.calm = true) : CallR X (.builtin "max") rMax2 := call_max2 hc
theorem cr_int1 : CallR X (.type "int") rInt1 := call_int1
theorem op_addS : OpR X (binaryOp .Add) rAddS := op_add_str
end
end Gx
/-! ### further rules of mine -/
namespace Gx
open PySem PySem.Spec PyProof.Rows L2
section
variable {X : Cx} {C g f : Addr} {bmB : List Value} {B newId initId : String} {CX : CXT} {k n : Nat} {fd : FuncData} {ps : List Str} {sp : Sp} {o fe e : Expr} {es : List Expr} {ta tf : TE} {t : TA} {m : Str} {p pos apos : Pos}
/-- X() of an own exception class -/
theorem pmk_own0 {x : Str} (F : ExcBaseFacts B newId initId bmB) (q : PySem.W.excIn X.K C bmB newId = true) (gC : X.mg x = some (.ref C)) (kC : PySem.W.keepIn X.K (.ref C) = true) (r : Raises X (.ref C)) (hg : Gl X x)
    (hdb : (x == ("__debug__" : Str)) = false := by decide) : PMk X (.Call (.Name x p) [] [] pos) (fun _ H Q => Q (.ref C) none H) := by
  intro pins s σ H Q I h
  refine wpAny_Call_Name_kw (ld_glob I hg gC ?_ hdb)
  refine PySem.W.callWith_K0 (first := []) I.kIn kC ?_
  obtain ⟨bm, N, nm, qn, bs, hdct, sn, sub, ab, col, dd, k0, k1, k2, k3, k5, mN, hC, hN, hni, T⟩ := exc_obj I.kIn q
  refine wpAny_call_exc_subT F T hC hN hni (fun h' e hm => ?_) (by show 0 ≤ sizeLine; rw [sizeLine_eq]; omega)
  exact mk_of I hm r h (I.hok.gone hm.new)
/-- o.m(e, ..) where what is raised is wished for at the slots -/
def tMethS (C : Addr) (m : Str) (sp : Sp) (E : L2.St → XK) (ta : TE) (t : TA) : TE := fun σ H Q => ta σ H fun x H1 => ∃ a dx fs, x = .ref a ∧ H1 a = some (.ins C dx fs) ∧ fs.lookup m = none ∧
  t σ H1 fun vs H2 => sp (x :: vs) H2 Q (E σ)
theorem pe_methS {E : L2.St → XK} {pl : Sem Bool} (he : PE X o ta) (c : Cls X.K C) (hm : Meth X.K C m f) (F : FnOk X.prog X.w X.K X.mg X.base CX k f fd ps sp) (hr : Room k X.A) (hb : Binds X.K fd ps []) (hx : ∀ σ, PassesAt CX X σ (E σ)) (ha : PA X (e :: es) t)
    (hst : starEach (e :: es) X.env = (false, eval e X.env) :: starEach es X.env := by rfl) (hpl : (backTo pos (starEach es X.env)).any (·.1) = false := by rfl)
    (ht : eval (.Call (.Attribute o m apos) (e :: es) [] pos) X.env = (do
      let ov ← eval o X.env
      standAt apos.atName
      let (f, first) ← holding [ov] (getMethod ov m pl)
      callWith pos f first (backTo pos (starEach (e :: es) X.env)) (backToKw pos (keywordEach [] X.env))) := by rfl) :
    PE X (.Call (.Attribute o m apos) (e :: es) [] pos) (tMethS C m sp E ta t) := by
  refine ⟨fun pins s σ H Q I h => ?_⟩
  refine PySem.W.methodCall_KW (pl := pl) (thn (he.run pins s σ H _ I h) fun u s1 ⟨x, H1, I1, rx, a, dx, fs, ex, ea, l, q⟩ => ?_) ht
  subst ex
  obtain rfl : u = Value.ref a := rx
  refine getmeth_ok I1 ea c hm l ?_
  refine PySem.W.callWith_K (first := [.ref a]) (h₀ := X.base) I.ok.mod.kin hm.kp (thn (ha.run pos pins s1 σ H1 _ I1 q) fun us s2 ⟨vs, H2, I2, r, q2⟩ => ⟨I2.kIn, ?_⟩) hst hpl
  exact run_fnS (us := .ref a :: us) (vs := .ref a :: vs) F hr hb (hx σ) I2 (.cons rfl r) q2
/-- the instance's call: its node's code -/
theorem code_fnS {E : L2.St → XK} {pins : List (Addr × Obj)} {σ : L2.St} {H : Hp} {s : Shared} {Q : VK} {us : List Value} {vs : List V} (F : FnOk X.prog X.w X.K X.mg X.base CX k f fd ps sp) (hr : Room k X.A) (hb : Binds X.K fd ps []) (hx : PassesAt CX X σ (E σ))
    (I : Inv X pins σ H s) (r : Vals vs us) (h : sp vs H Q (E σ)) : codeAny (model X.prog X.w) X.A (.call (.ref f) ⟨us, []⟩) (wants (EP X pins σ Q) X.xe) s := by
  have hl : us.length = ps.length := by rw [← r.length]; exact F.len _ _ _ _ h
  have b := hb s us I.kIn (by rw [List.append_nil]; exact hl)
  rw [List.append_nil] at b
  refine codeAny_mono (F.run X.A X.stack s H ⟨us, []⟩ us vs Q (E σ) hr I.env0 b r h) fun r s' hq => ?_
  cases r with
  | error e => exact hx pins H s e s' I hq
  | ok fl =>
    cases fl with
    | ret u => exact I.after hq
    | next => exact False.elim hq
    | brk => exact False.elim hq
    | cont => exact False.elim hq
/-- o(e, ..), o an instance of C with __call__ -/
def tCallOS (C : Addr) (sp : Sp) (E : L2.St → XK) (tf : TE) (t : TA) : TE := fun σ H Q => tf σ H fun y H1 => ∃ a, y = V.ref a ∧ t σ H1 fun vs H2 => (∃ dx fs, H2 a = some (.ins C dx fs)) ∧ sp (V.ref a :: vs) H2 Q (E σ)
theorem pe_callOS {E : L2.St → XK} (hf : PE X fe tf) (c : StX.CallO X.K C g) (F : FnOk X.prog X.w X.K X.mg X.base CX k g fd ps sp) (hr : Room k X.A) (hb : Binds X.K fd ps []) (hx : ∀ σ, PassesAt CX X σ (E σ)) (ha : PA X (e :: es) t)
    (ht : eval (.Call fe (e :: es) [] pos) X.env = (do callWith pos (← eval fe X.env) [] (backTo pos (starEach (e :: es) X.env)) (backToKw pos (keywordEach [] X.env))) := by rfl)
    (he : starEach (e :: es) X.env = (false, eval e X.env) :: starEach es X.env := by rfl) (hpl : (backTo pos (starEach es X.env)).any (·.1) = false := by rfl) : PE X (.Call fe (e :: es) [] pos) (tCallOS C sp E tf t) := by
  refine ⟨fun pins s σ H Q I h => ?_⟩
  refine Call_ (thn (hf.run pins s σ H _ I h) fun u s1 ⟨y, H1, I1, ry, a, ey, q⟩ => ?_) ht
  subst ey
  obtain rfl : u = Value.ref a := ry
  refine StX.callO_with (thn (ha.run pos pins s1 σ H1 _ I1 q) fun us s2 ⟨vs, H2, I2, r, ⟨dx, fs, hi⟩, q2⟩ => ?_) he hpl
  obtain ⟨ox, od, J, hd⟩ := StX.insC_at (X := X) I2 (.inr ⟨dx, fs, hi⟩)
  refine ⟨⟨C, ox, od, J, hd⟩, wpAny_call (PySem.W.kco_code I2.kIn J hd c.at_ c.fn c.fi ?_)⟩
  exact code_fnS (us := .ref a :: us) (vs := .ref a :: vs) F hr hb (hx σ) I2 (.cons rfl r) q2
/-- x == y, x an instance of C with its own __eq__ -/
def rEqO (C : Addr) (sp : Sp) (K : PySem.W.Frag) : R2 := fun x y H Q => ∃ a dx fs tb, x = .ref a ∧ H a = some (.ins C dx fs) ∧ TyX K H y tb ∧ PySem.W.notFirst K C tb = true ∧ sp [x, y] H (fun v H' => (∃ b, v = .bl b) ∧ Q v H') E0
theorem looks_ty {K : PySem.W.Frag} {M : Model} {pins : List (Addr × Obj)} {σ : L2.St} {H : Hp} {s : Shared} {x : V} {u t : Value} (I : Inv X pins σ H s) (rx : RelV x u) (ty : TyX X.K H x t) : PySem.W.Looks M s.heap (typeOf u) t := by
  obtain ⟨P, Z, p, _⟩ := kit_of I rx ty
  exact Z.ty _ _ I.kIn p
theorem op_eqO (c : PySem.W.findIn X.K (.ref C) "__eq__" = some (some (.ref f))) (hf : PySem.W.isFn X.K (.ref f) = true) (F : FnOk X.prog X.w X.K X.mg X.base CX0 k f fd ps sp) (hr : Room k X.A) (hb : Binds X.K fd ps []) : OpR X (compareOp .Eq) (rEqO C sp X.K) := by
  intro pins s σ H x y v u Q I rx ry hq
  obtain ⟨a, dx, fs, tb, rfl, ha, ty, nf, q⟩ := hq
  obtain rfl : v = Value.ref a := rx
  show wpAny (model X.prog X.w) X.A (richCompare .Eq (.ref a) u) (EP X pins σ Q) X.xe s
  obtain ⟨mA, J, _⟩ := ins_get I.hok ha
  obtain ⟨od, J, _⟩ := J.look
  obtain ⟨m, hF⟩ := I.fr
  refine PySem.W.cmp_K (op := .Eq) (tb := tb) hr.units0 hF I.ok.mod.kin J (looks_ty (K := X.K) I ry ty) nf c hf ?_
  refine wpAny_mono (run_fn (us := [.ref a, u]) (vs := [.ref a, y]) (ds := []) (dvs := []) F hr hb .nil pass0 I (.cons rfl (.cons ry .nil)) q) (fun z s' hz => ?_) fun _ _ h => h
  obtain ⟨v', H', I', rv, ⟨b, rfl⟩, q'⟩ := hz
  cases rv
  exact ⟨V.bl b, H', I', rfl, q'⟩
/-- isinstance(e, T), e the exception that the suite holds -/
def rIsE' (K : PySem.W.Frag) (D a : Addr) (cls : Value) (d : Option Addr) : List V → Hp → VK → Prop := fun xs H Q => cls = .ref D ∧ d = none ∧ rIsE K D a xs H Q
theorem cr_isE {a D : Addr} {cls : Value} {d : Option Addr} {oe : Obj} {pn : List (Addr × Obj)} (C : ExcC X.K D) (hz : Zc cls d oe) (hf : ∃ vs, oe.data = .fields vs) : CallR (X.suite a ((a, oe) :: pn)) (.builtin "isinstance") (rIsE' X.K D a cls d) := by
  intro pins s σ H xs us Q I r h
  obtain ⟨rfl, rfl, h⟩ := h
  exact call_isE C hz hf pins s σ H xs us Q I r h
theorem isi {K : PySem.W.Frag} {H : Hp} {Q : VK} {x c : V} {t u : Value} {b : Bool} (hc : ClsV c u) (ht : TyX K H x t) (e : PySem.W.kitOne K t u = some b) (h : Q (.bl b) H) : rIsi K [x, c] H Q := ⟨x, c, t, u, b, rfl, hc, ht, e, h⟩
theorem tyX_L {K : PySem.W.Frag} {H : Hp} {a : Addr} {xs : List V} (h : SqL K H a xs) : TyX K H (.ref a) (.type "list") := by
  rcases h with (h | ⟨o, h⟩) | ⟨o, its, n, h, hc, _⟩
  · exact .base (.lst h)
  · exact .base (.frz h)
  · exact .kList h hc
theorem tyX_T {K : PySem.W.Frag} {H : Hp} {a : Addr} {xs : List V} (h : SqT K H a xs) : TyX K H (.ref a) (.type "tuple") := by
  rcases h with (h | ⟨o, h⟩) | ⟨o, its, n, h, hc, _⟩
  · exact .base (.tup h)
  · exact .fTuple h
  · exact .kTuple h hc
theorem isi_ni {K : PySem.W.Frag} {H : Hp} {Q : VK} (h : Q (.bl false) H) : rIsi K [.non, .ty "int"] H Q := isi (.ty _) (.base .non) (kit_ty (by decide +kernel)) h
theorem isi_nb {K : PySem.W.Frag} {H : Hp} {Q : VK} (h : Q (.bl false) H) : rIsi K [.non, .ty "bool"] H Q := isi (.ty _) (.base .non) (kit_ty (by decide +kernel)) h
theorem isi_ns {K : PySem.W.Frag} {H : Hp} {Q : VK} (h : Q (.bl false) H) : rIsi K [.non, .ty "str"] H Q := isi (.ty _) (.base .non) (kit_ty (by decide +kernel)) h
theorem isi_nl {K : PySem.W.Frag} {H : Hp} {Q : VK} (h : Q (.bl false) H) : rIsi K [.non, .ty "list"] H Q := isi (.ty _) (.base .non) (kit_ty (by decide +kernel)) h
theorem isi_nt {K : PySem.W.Frag} {H : Hp} {Q : VK} (h : Q (.bl false) H) : rIsi K [.non, .ty "tuple"] H Q := isi (.ty _) (.base .non) (kit_ty (by decide +kernel)) h
theorem isi_ii {K : PySem.W.Frag} {H : Hp} {Q : VK} {i : Int} (h : Q (.bl true) H) : rIsi K [.int i, .ty "int"] H Q := isi (.ty _) (.base (.int i)) (kit_ty (by decide +kernel)) h
theorem isi_ib {K : PySem.W.Frag} {H : Hp} {Q : VK} {i : Int} (h : Q (.bl false) H) : rIsi K [.int i, .ty "bool"] H Q := isi (.ty _) (.base (.int i)) (kit_ty (by decide +kernel)) h
theorem isi_is {K : PySem.W.Frag} {H : Hp} {Q : VK} {i : Int} (h : Q (.bl false) H) : rIsi K [.int i, .ty "str"] H Q := isi (.ty _) (.base (.int i)) (kit_ty (by decide +kernel)) h
theorem isi_il {K : PySem.W.Frag} {H : Hp} {Q : VK} {i : Int} (h : Q (.bl false) H) : rIsi K [.int i, .ty "list"] H Q := isi (.ty _) (.base (.int i)) (kit_ty (by decide +kernel)) h
theorem isi_it {K : PySem.W.Frag} {H : Hp} {Q : VK} {i : Int} (h : Q (.bl false) H) : rIsi K [.int i, .ty "tuple"] H Q := isi (.ty _) (.base (.int i)) (kit_ty (by decide +kernel)) h
theorem isi_si {K : PySem.W.Frag} {H : Hp} {Q : VK} {z : Str} (h : Q (.bl false) H) : rIsi K [.str z, .ty "int"] H Q := isi (.ty _) (.base (.str z)) (kit_ty (by decide +kernel)) h
theorem isi_sb {K : PySem.W.Frag} {H : Hp} {Q : VK} {z : Str} (h : Q (.bl false) H) : rIsi K [.str z, .ty "bool"] H Q := isi (.ty _) (.base (.str z)) (kit_ty (by decide +kernel)) h
theorem isi_ss {K : PySem.W.Frag} {H : Hp} {Q : VK} {z : Str} (h : Q (.bl true) H) : rIsi K [.str z, .ty "str"] H Q := isi (.ty _) (.base (.str z)) (kit_ty (by decide +kernel)) h
theorem isi_sl {K : PySem.W.Frag} {H : Hp} {Q : VK} {z : Str} (h : Q (.bl false) H) : rIsi K [.str z, .ty "list"] H Q := isi (.ty _) (.base (.str z)) (kit_ty (by decide +kernel)) h
theorem isi_st {K : PySem.W.Frag} {H : Hp} {Q : VK} {z : Str} (h : Q (.bl false) H) : rIsi K [.str z, .ty "tuple"] H Q := isi (.ty _) (.base (.str z)) (kit_ty (by decide +kernel)) h
theorem isi_bi {K : PySem.W.Frag} {H : Hp} {Q : VK} {z : Bool} (h : Q (.bl true) H) : rIsi K [.bl z, .ty "int"] H Q := isi (.ty _) (.base (.bl z)) (kit_ty (by decide +kernel)) h
theorem isi_bb {K : PySem.W.Frag} {H : Hp} {Q : VK} {z : Bool} (h : Q (.bl true) H) : rIsi K [.bl z, .ty "bool"] H Q := isi (.ty _) (.base (.bl z)) (kit_ty (by decide +kernel)) h
theorem isi_bs {K : PySem.W.Frag} {H : Hp} {Q : VK} {z : Bool} (h : Q (.bl false) H) : rIsi K [.bl z, .ty "str"] H Q := isi (.ty _) (.base (.bl z)) (kit_ty (by decide +kernel)) h
theorem isi_bl {K : PySem.W.Frag} {H : Hp} {Q : VK} {z : Bool} (h : Q (.bl false) H) : rIsi K [.bl z, .ty "list"] H Q := isi (.ty _) (.base (.bl z)) (kit_ty (by decide +kernel)) h
theorem isi_bt {K : PySem.W.Frag} {H : Hp} {Q : VK} {z : Bool} (h : Q (.bl false) H) : rIsi K [.bl z, .ty "tuple"] H Q := isi (.ty _) (.base (.bl z)) (kit_ty (by decide +kernel)) h
theorem isi_Li {K : PySem.W.Frag} {H : Hp} {Q : VK} {a : Addr} {xs : List V} (hs : SqL K H a xs) (h : Q (.bl false) H) : rIsi K [.ref a, .ty "int"] H Q := isi (.ty _) (tyX_L hs) (kit_ty (by decide +kernel)) h
theorem isi_Lb {K : PySem.W.Frag} {H : Hp} {Q : VK} {a : Addr} {xs : List V} (hs : SqL K H a xs) (h : Q (.bl false) H) : rIsi K [.ref a, .ty "bool"] H Q := isi (.ty _) (tyX_L hs) (kit_ty (by decide +kernel)) h
theorem isi_Ls {K : PySem.W.Frag} {H : Hp} {Q : VK} {a : Addr} {xs : List V} (hs : SqL K H a xs) (h : Q (.bl false) H) : rIsi K [.ref a, .ty "str"] H Q := isi (.ty _) (tyX_L hs) (kit_ty (by decide +kernel)) h
theorem isi_Ll {K : PySem.W.Frag} {H : Hp} {Q : VK} {a : Addr} {xs : List V} (hs : SqL K H a xs) (h : Q (.bl true) H) : rIsi K [.ref a, .ty "list"] H Q := isi (.ty _) (tyX_L hs) (kit_ty (by decide +kernel)) h
theorem isi_Lt {K : PySem.W.Frag} {H : Hp} {Q : VK} {a : Addr} {xs : List V} (hs : SqL K H a xs) (h : Q (.bl false) H) : rIsi K [.ref a, .ty "tuple"] H Q := isi (.ty _) (tyX_L hs) (kit_ty (by decide +kernel)) h
theorem isi_Ti {K : PySem.W.Frag} {H : Hp} {Q : VK} {a : Addr} {xs : List V} (hs : SqT K H a xs) (h : Q (.bl false) H) : rIsi K [.ref a, .ty "int"] H Q := isi (.ty _) (tyX_T hs) (kit_ty (by decide +kernel)) h
theorem isi_Tb {K : PySem.W.Frag} {H : Hp} {Q : VK} {a : Addr} {xs : List V} (hs : SqT K H a xs) (h : Q (.bl false) H) : rIsi K [.ref a, .ty "bool"] H Q := isi (.ty _) (tyX_T hs) (kit_ty (by decide +kernel)) h
theorem isi_Ts {K : PySem.W.Frag} {H : Hp} {Q : VK} {a : Addr} {xs : List V} (hs : SqT K H a xs) (h : Q (.bl false) H) : rIsi K [.ref a, .ty "str"] H Q := isi (.ty _) (tyX_T hs) (kit_ty (by decide +kernel)) h
theorem isi_Tl {K : PySem.W.Frag} {H : Hp} {Q : VK} {a : Addr} {xs : List V} (hs : SqT K H a xs) (h : Q (.bl false) H) : rIsi K [.ref a, .ty "list"] H Q := isi (.ty _) (tyX_T hs) (kit_ty (by decide +kernel)) h
theorem isi_Tt {K : PySem.W.Frag} {H : Hp} {Q : VK} {a : Addr} {xs : List V} (hs : SqT K H a xs) (h : Q (.bl true) H) : rIsi K [.ref a, .ty "tuple"] H Q := isi (.ty _) (tyX_T hs) (kit_ty (by decide +kernel)) h
/-- fields -/
theorem sfld {K : PySem.W.Frag} {H : Hp} {D : Ends} {σ : L2.St} {ta tv : TE} {f : Str} (h : tv σ H fun y H1 => ta σ H1 fun x H2 => ∃ a C dx fs, x = .ref a ∧ H2 a = some (.ins C dx fs) ∧ Cls K C ∧ NoAttr K C f ∧ fs.length < 1000 ∧ D.nx σ (upd H2 a (.ins C dx (putF f y fs)))) : sFld K ta tv f D σ H := h
theorem meth {H : Hp} {Q : VK} {σ : L2.St} {ta : TE} {C : Addr} {m : Str} {sp : Sp} {E : XK} {t : TA} (h : ta σ H fun x H1 => ∃ a dx fs, x = .ref a ∧ H1 a = some (.ins C dx fs) ∧ fs.lookup m = none ∧ t σ H1 fun vs H2 => CallK sp [] E (x :: vs) H2 Q) : tMeth C m sp [] E ta t σ H Q := h
theorem make {H : Hp} {Q : VK} {σ : L2.St} {C : Addr} {sp : Sp} {E : XK} {t : TA} (h : t σ H fun vs H1 => ∀ x dx, H1 x = none → H1 dx = none → dx ≠ x → sp (.ref x :: vs) (upd (upd H1 dx (.own x)) x (.ins C dx [])) (fun v H2 => v = .non ∧ Q (.ref x) H2) E) : tMake C sp [] E t σ H Q := by
  unfold tMake
  have e : ∀ vs : List V, vs ++ [] = vs := fun vs => List.append_nil vs
  simp only [e]
  exact h
theorem fld {K : PySem.W.Frag} {H : Hp} {Q : VK} {σ : L2.St} {ta : TE} {f : Str} (h : ta σ H fun x H1 => ∃ a C dx fs v, x = .ref a ∧ H1 a = some (.ins C dx fs) ∧ Cls K C ∧ NoAttr K C f ∧ fs.lookup f = some v ∧ Q v H1) : tFld K ta f σ H Q := h
theorem passLS {X : Cx} : ∀ σ, PassesAt (L2.CX X.prog X.w) X σ E0 := fun σ pins H s e s' I c => passL pins σ H s e s' I c
theorem prop {H : Hp} {Q : VK} {σ : L2.St} {ta : TE} {C : Addr} {sp : Sp} {E : XK} (h : ta σ H fun x H1 => ∃ a dx fs, x = .ref a ∧ H1 a = some (.ins C dx fs) ∧ sp [.ref a] H1 Q E) : tProp C sp [] E ta σ H Q := h
theorem callO {H : Hp} {Q : VK} {σ : L2.St} {tf : TE} {t : TA} {C : Addr} {sp : Sp} {E : L2.St → XK} (h : tf σ H fun y H1 => ∃ a, y = V.ref a ∧ t σ H1 fun vs H2 => (∃ dx fs, H2 a = some (.ins C dx fs)) ∧ sp (V.ref a :: vs) H2 Q (E σ)) : tCallOS C sp E tf t σ H Q := h
theorem methS {H : Hp} {Q : VK} {σ : L2.St} {ta : TE} {C : Addr} {m : Str} {sp : Sp} {E : L2.St → XK} {t : TA} (h : ta σ H fun x H1 => ∃ a dx fs, x = .ref a ∧ H1 a = some (.ins C dx fs) ∧ fs.lookup m = none ∧ t σ H1 fun vs H2 => sp (x :: vs) H2 Q (E σ)) : tMethS C m sp E ta t σ H Q := h
theorem callS {sp : Sp} {E : L2.St → XK} {t : TA} {σ : L2.St} {H : Hp} {Q : VK} (h : t σ H fun vs H1 => sp vs H1 Q (E σ)) : tCallS sp E t σ H Q := h
end
end Gx
/-! ### texts as lists of code points -/
namespace Gx
open PySem PySem.Spec PyProof.Rows L2 TL
def mkS (l : List Nat) : Str := ⟨l.toArray⟩
theorem mkS_len (l : List Nat) : (mkS l).length = l.length := by simp [mkS, Str.length]
theorem mkS_tl (l : List Nat) : (mkS l).cps.toList = l := rfl
theorem mkS_app (a b : List Nat) : mkS a ++ mkS b = mkS (a ++ b) := by
  refine ext_tl ?_
  rw [tl_append]
  rfl
theorem mkS_inj {a b : List Nat} : mkS a = mkS b ↔ a = b := ⟨fun h => by
  have := congrArg (fun x => x.cps.toList) h
  exact this, fun h => by rw [h]⟩
theorem mkS_of (x : Str) : x = mkS x.cps.toList := rfl
theorem ofS (s : String) : Str.ofString s = mkS (s.toList.map Char.toNat) := ext_tl (tl_ofString s)
theorem sIx_int (n d : Nat) {i : Int} (h : 0 ≤ i) : HT.sIx n d (some i) = min i.toNat n := by
  have e : i = ((i.toNat : Nat) : Int) := by omega
  rw [e, HT.sIx_nat, Int.toNat_natCast]
theorem cut_A (l : List Nat) {j : Int} (h : 0 ≤ j) : cutS (mkS l) none (some j) = mkS (l.take j.toNat) := by
  show mkS (((mkS l).cps.toList.drop _).take _) = _
  rw [mkS_tl, mkS_len, HT.sIx_none, sIx_int _ _ h, List.drop_zero, Nat.sub_zero, ← List.take_eq_take_min]
theorem cut_B (l : List Nat) {i : Int} (h : 0 ≤ i) : cutS (mkS l) (some i) none = mkS (l.drop i.toNat) := by
  show mkS (((mkS l).cps.toList.drop _).take _) = _
  rw [mkS_tl, mkS_len, HT.sIx_none, sIx_int _ _ h]
  congr 1
  rw [List.take_of_length_le (by rw [List.length_drop]; omega)]
  by_cases c : i.toNat ≤ l.length
  · rw [Nat.min_eq_left c]
  · rw [Nat.min_eq_right (by omega), List.drop_length, List.drop_eq_nil_of_le (by omega)]
theorem cut_C (l : List Nat) {i j : Int} (h : 0 ≤ i) (h' : 0 ≤ j) : cutS (mkS l) (some i) (some j) = mkS ((l.take j.toNat).drop i.toNat) := by
  show mkS (((mkS l).cps.toList.drop _).take _) = _
  rw [mkS_tl, mkS_len, sIx_int _ _ h, sIx_int _ _ h']
  congr 1
  rw [List.drop_take]
  by_cases c : i.toNat ≤ l.length
  · rw [Nat.min_eq_left c]
    by_cases d : j.toNat ≤ l.length
    · rw [Nat.min_eq_left d]
    · rw [Nat.min_eq_right (by omega), List.take_of_length_le (by rw [List.length_drop]; omega), List.take_of_length_le (by rw [List.length_drop]; omega)]
  · rw [Nat.min_eq_right (a := i.toNat) (by omega), List.drop_length, List.drop_eq_nil_of_le (by omega)]
    simp
section
variable {σ : L2.St} {H : Hp} {Q : VK} {te to : TE} {K : PySem.W.Frag}
theorem conE {x y : Str} (e : x = y) (h : Q (.str y) H) : tC (.str x) σ H Q := by rw [e]; exact h
theorem sA {l : List Nat} {j : Int} (h0 : 0 ≤ j) (c : l.length ≤ 16777216) (h : Q (.str (mkS (l.take j.toNat))) H) : rSlS (.str (mkS l)) none (some j) H Q := ⟨_, rfl, by rw [mkS_len, sizeLine_eq]; exact c, by rw [cut_A l h0]; exact h⟩
theorem sB {l : List Nat} {j : Int} (h0 : 0 ≤ j) (c : l.length ≤ 16777216) (h : Q (.str (mkS (l.drop j.toNat))) H) : rSlS (.str (mkS l)) (some j) none H Q := ⟨_, rfl, by rw [mkS_len, sizeLine_eq]; exact c, by rw [cut_B l h0]; exact h⟩
theorem sC {l : List Nat} {i j : Int} (h0 : 0 ≤ i) (h1 : 0 ≤ j) (c : l.length ≤ 16777216) (h : Q (.str (mkS ((l.take j.toNat).drop i.toNat))) H) : rSlS (.str (mkS l)) (some i) (some j) H Q := ⟨_, rfl, by rw [mkS_len, sizeLine_eq]; exact c, by rw [cut_C l h0 h1]; exact h⟩
theorem addM {a b : List Nat} (c : a.length + b.length ≤ 16777216) (h : Q (.str (mkS (a ++ b))) H) : rAddS (.str (mkS a)) (.str (mkS b)) H Q := ⟨_, _, rfl, rfl, by rw [mkS_len, mkS_len, sizeLine_eq]; exact c, by rw [mkS_app]; exact h⟩
theorem lenM {l : List Nat} (c : l.length ≤ 16777216) (h : Q (.int l.length) H) : rLenS [.str (mkS l)] H Q := ⟨_, rfl, by rw [mkS_len, sizeLine_eq]; exact c, by rw [mkS_len]; exact h⟩
theorem eqM {a b : List Nat} (h : Q (.bl (decide (a = b))) H) : rEq (.str (mkS a)) (.str (mkS b)) H Q := ⟨rfl, by
  rw [show decide (V.str (mkS a) = V.str (mkS b)) = decide (a = b) from by simp [mkS_inj]]
  exact h⟩
theorem neM {a b : List Nat} (h : Q (.bl (!decide (a = b))) H) : rNe (.str (mkS a)) (.str (mkS b)) H Q := ⟨rfl, by
  rw [show decide (V.str (mkS a) = V.str (mkS b)) = decide (a = b) from by simp [mkS_inj]]
  exact h⟩
theorem ixM {l : List Nat} {i : Int} (h0 : 0 ≤ i) (h1 : i < l.length) (c : l.length ≤ 16777216) (h : Q (.str (mkS [l.getD i.toNat 0])) H) : rIxS (.str (mkS l)) (.int i) H Q := by
  have e : i = ((i.toNat : Nat) : Int) := by omega
  have h2 : i.toNat < l.length := by omega
  refine ⟨_, i, l.getD i.toNat 0, rfl, rfl, by rw [mkS_len, sizeLine_eq]; exact c, ?_, h⟩
  rw [mkS_tl, e]
  refine atI_nat ?_
  rw [Int.toNat_natCast, List.getElem?_eq_getElem h2, List.getD_eq_getElem?_getD, List.getElem?_eq_getElem h2]
  rfl
/-- sep.join(xs) -/
def rJoin (K : PySem.W.Frag) : V → List V → Hp → VK → Prop := fun x xs H Q => ∃ a p, ∃ ys : List Str, x = .str a ∧ xs = [.ref p] ∧ (SqL K H p (ys.map V.str) ∨ SqT K H p (ys.map V.str)) ∧
      (ys.map (·.length)).sum + ys.length * a.length ≤ 16777216 ∧ Q (.str (Txt.join a ys)) H
theorem m1 {r : V → List V → Hp → VK → Prop} (h : to σ H fun x H1 => (∃ a, x = .str a) ∧ te σ H1 fun y H2 => r x [y] H2 Q) : tM1 r to te σ H Q := h
theorem isS {z : Str} {A : Prop} (h : A) : (∃ a, V.str z = .str a) ∧ A := ⟨⟨z, rfl⟩, h⟩
theorem joinL_nil : ∀ ls : List (List Nat), joinL [] ls = ls.flatten
  | [] => rfl
  | [p] => by simp [joinL]
  | p :: q :: r => by
    show p ++ ([] ++ joinL [] (q :: r)) = _
    rw [joinL_nil (q :: r)]
    rfl
theorem sum_len : ∀ ls : List (List Nat), ((ls.map mkS).map (·.length)).sum = ls.flatten.length
  | [] => rfl
  | p :: r => by
    rw [List.map_cons, List.map_cons, List.sum_cons, sum_len r, mkS_len, List.flatten_cons, List.length_append]
/-- ''.join(xs) -/
theorem join0 {ls : List (List Nat)} {p : Addr} (e : SqL K H p ((ls.map mkS).map V.str)) (c : ls.flatten.length ≤ 16777216) (h : Q (.str (mkS ls.flatten)) H) : rJoin K (.str (mkS [])) [.ref p] H Q := by
  refine ⟨mkS [], p, ls.map mkS, rfl, rfl, .inl e, ?_, ?_⟩
  · rw [sum_len, mkS_len]
    simpa using c
  · rw [show Txt.join (mkS []) (ls.map mkS) = mkS ls.flatten from ?_]
    · exact h
    · refine ext_tl ?_
      rw [join_eq, tl_join, List.map_map]
      show joinL [] (ls.map (fun l => l)) = ls.flatten
      rw [List.map_id', joinL_nil]
end
section
variable {X : Cx} {o e : Expr} {to te : TE} {pos apos : Pos}
theorem pe_joinG (ho : PE X o to) (he : PE X e te) (hs : starEach [e] X.env = [(false, eval e X.env)] := by rfl) (hbase : attributeBase o "join" X.env (eval o X.env) = eval o X.env := by rfl) (hline : (apos.endLine == pos.line) = true := by rfl) :
    PE X (.Call (.Attribute o "join" apos) [e] [] pos) (tM1 (rJoin X.K) to te) := pe_join ho he hs hbase hline
end
end Gx
/-! ### nested data -/
namespace Gx
open PySem PySem.Spec PyProof.Rows L2
section
variable {K : PySem.W.Frag} {H H' : Hp}
theorem _root_.L2.Same.seqT {a : Addr} {xs : List V} (e : Same H H') (h : SqT K H a xs) : SqT K H' a xs := by
  rcases h with (h | ⟨o, h⟩) | h
  · exact .inl (.inl (e _ _ h))
  · exact .inl (.inr ⟨o, e _ _ h⟩)
  · exact .inr h
mutual
theorem dp_same (e : Same H H') : ∀ (d : PyData) (v : V), Dp K H v d → Dp K H' v d
  | .none, _, h => by cases h; exact .non
  | .bool _, _, h => by cases h; exact .bl _
  | .int _, _, h => by cases h; exact .int _
  | .str _, _, h => by cases h; exact .str _
  | .list ds, _, h => by
    cases h with
    | lst hs ha => exact .lst (e.seq hs) (dpAll_same e ds _ ha)
  | .tuple ds, _, h => by
    cases h with
    | tup hs ha => exact .tup (e.seqT hs) (dpAll_same e ds _ ha)
  | .dict _, _, h => by cases h
theorem dpAll_same (e : Same H H') : ∀ (ds : List PyData) (vs : List V), DpAll K H vs ds → DpAll K H' vs ds
  | [], _, h => by cases h; exact .nil
  | d :: ds, _, h => by
    cases h with
    | cons h1 h2 => exact .cons (dp_same e d _ h1) (dpAll_same e ds _ h2)
end
mutual
/-- no list within -/
def noL : PyData → Bool
  | .none | .bool _ | .int _ | .str _ => true
  | .tuple xs => noLs xs
  | .list _ | .dict _ => false
def noLs : List PyData → Bool
  | [] => true
  | x :: xs => noL x && noLs xs
end
/-- all tuples stay -/
def Tups (K : PySem.W.Frag) (H H' : Hp) : Prop := ∀ a xs, SqT K H a xs → SqT K H' a xs
theorem Tups.of (e : Same H H') : Tups K H H' := fun _ _ h => e.seqT h
theorem Tups.upd {p : Addr} {xs ys : List V} (h : H p = some (.lst xs)) : Tups K H (upd H p (.lst ys)) := fun a us q => by
  rcases q with (q | ⟨o, q⟩) | q
  · exact .inl (.inl (by rw [upd_ne (ne_of q h (by intro z; cases z))]; exact q))
  · exact .inl (.inr ⟨o, by rw [upd_ne (ne_of q h (by intro z; cases z))]; exact q⟩)
  · exact .inr q
mutual
theorem dp_tups (e : Tups K H H') : ∀ (d : PyData) (v : V), noL d = true → Dp K H v d → Dp K H' v d
  | .none, _, _, h => by cases h; exact .non
  | .bool _, _, _, h => by cases h; exact .bl _
  | .int _, _, _, h => by cases h; exact .int _
  | .str _, _, _, h => by cases h; exact .str _
  | .list ds, _, n, h => by simp [noL] at n
  | .tuple ds, _, n, h => by
    cases h with
    | tup hs ha => exact .tup (e _ _ hs) (dpAll_tups e ds _ (by simpa [noL] using n) ha)
  | .dict _, _, _, h => by cases h
theorem dpAll_tups (e : Tups K H H') : ∀ (ds : List PyData) (vs : List V), noLs ds = true → DpAll K H vs ds → DpAll K H' vs ds
  | [], _, _, h => by cases h; exact .nil
  | d :: ds, _, n, h => by
    have n' : noL d = true ∧ noLs ds = true := by simpa [noLs] using n
    cases h with
    | cons h1 h2 => exact .cons (dp_tups e d _ n'.1 h1) (dpAll_tups e ds _ n'.2 h2)
end
theorem dpAll_len : ∀ {vs : List V} {ds : List PyData}, DpAll K H vs ds → vs.length = ds.length
  | _, _, .nil => rfl
  | _, _, .cons _ t => by rw [List.length_cons, List.length_cons, dpAll_len t]
theorem dpAll_app : ∀ {vs ws : List V} {ds es : List PyData}, DpAll K H vs ds → DpAll K H ws es → DpAll K H (vs ++ ws) (ds ++ es)
  | _, _, _, _, .nil, h => h
  | _, _, _, _, .cons a t, h => .cons a (dpAll_app t h)
theorem dpAll_get : ∀ {vs : List V} {ds : List PyData} {i : Nat} {v : V}, DpAll K H vs ds → vs[i]? = some v → ∃ d, ds[i]? = some d ∧ Dp K H v d
  | _, _, _, _, .nil, h => by simp at h
  | _, _, 0, _, .cons a t, h => by
    simp at h
    subst h
    exact ⟨_, rfl, a⟩
  | _, _, i + 1, _, .cons a t, h => dpAll_get (i := i) t (by simpa using h)
theorem dpAll_ints : ∀ (ns : List Int), DpAll K H (ns.map V.int) (ns.map PyData.int)
  | [] => .nil
  | n :: r => .cons (.int n) (dpAll_ints r)
end
mutual
/-- what _law_kind tells of a datum -/
def kindD : PyData → PyData
  | .none => .tuple [.str (mkS [110, 111, 110, 101])]
  | .bool b => .tuple [.str (mkS [116, 114, 117, 116, 104]), .str (Str.ofString (if b then "True" else "False"))]
  | .int i => .tuple [.str (mkS [110, 117, 109, 98, 101, 114]), .int i]
  | .str x => .tuple [.str (mkS [116, 101, 120, 116]), .str x]
  | .list xs => .tuple (.str (mkS [108, 105, 115, 116]) :: kindAll xs)
  | .tuple xs => .tuple (.str (mkS [116, 117, 112, 108, 101]) :: kindAll xs)
  | .dict _ => .tuple [.str (mkS [111, 116, 104, 101, 114])]
def kindAll : List PyData → List PyData
  | [] => []
  | x :: xs => kindD x :: kindAll xs
end
theorem kindAll_app : ∀ xs ys : List PyData, kindAll (xs ++ ys) = kindAll xs ++ kindAll ys
  | [], _ => by simp [kindAll]
  | x :: xs, ys => by rw [List.cons_append, kindAll, kindAll, kindAll_app xs ys, List.cons_append]
theorem kindAll_len : ∀ xs : List PyData, (kindAll xs).length = xs.length
  | [] => rfl
  | x :: xs => by rw [kindAll, List.length_cons, List.length_cons, kindAll_len xs]
theorem kindAll_get : ∀ (xs : List PyData) (i : Nat), (kindAll xs)[i]? = xs[i]?.map kindD
  | [], i => by simp [kindAll]
  | x :: xs, 0 => by simp [kindAll]
  | x :: xs, i + 1 => by
    rw [kindAll]
    simpa using kindAll_get xs i
mutual
theorem noL_kind : ∀ d : PyData, noL (kindD d) = true
  | .none => rfl
  | .bool _ => rfl
  | .int _ => rfl
  | .str _ => rfl
  | .list xs => by simp only [kindD, noL, noLs, Bool.true_and]; exact noLs_kind xs
  | .tuple xs => by simp only [kindD, noL, noLs, Bool.true_and]; exact noLs_kind xs
  | .dict _ => rfl
theorem noLs_kind : ∀ ds : List PyData, noLs (kindAll ds) = true
  | [] => rfl
  | d :: ds => by rw [kindAll, noLs, noL_kind d, noLs_kind ds]; rfl
end
theorem noLs_take : ∀ (ds : List PyData) (i : Nat), noLs ds = true → noLs (ds.take i) = true
  | [], i, _ => by simp [noLs]
  | d :: ds, 0, _ => rfl
  | d :: ds, i + 1, h => by
    have h' : noL d = true ∧ noLs ds = true := by simpa [noLs] using h
    rw [List.take_succ_cons, noLs, h'.1, noLs_take ds i h'.2]
    rfl
mutual
/-- data that can be told and compared: texts of code points, no dict, lists of at most 100000 -/
def okD : PyData → Bool
  | .none | .bool _ | .int _ => true
  | .str x => PyData.strOk x
  | .list xs | .tuple xs => decide (xs.length ≤ 100000) && okDs xs
  | .dict _ => false
def okDs : List PyData → Bool
  | [] => true
  | x :: xs => okD x && okDs xs
end
theorem okDs_get : ∀ {xs : List PyData} {i : Nat} {d : PyData}, okDs xs = true → xs[i]? = some d → okD d = true
  | [], _, _, _, h => by simp at h
  | x :: xs, 0, _, k, h => by
    have k' : okD x = true ∧ okDs xs = true := by simpa [okDs] using k
    simp at h
    subst h
    exact k'.1
  | x :: xs, i + 1, _, k, h => by
    have k' : okD x = true ∧ okDs xs = true := by simpa [okDs] using k
    exact okDs_get (i := i) k'.2 (by simpa using h)
theorem depth_get : ∀ {xs : List PyData} {i : Nat} {d : PyData}, xs[i]? = some d → PyData.depth d ≤ PyData.depthAll xs
  | [], _, _, h => by simp at h
  | x :: xs, 0, _, h => by
    simp at h
    subst h
    exact Nat.le_max_left _ _
  | x :: xs, i + 1, d, h => by
    have := depth_get (xs := xs) (i := i) (d := d) (by simpa using h)
    exact Nat.le_trans this (Nat.le_max_right _ _)
mutual
theorem can_kind : ∀ d : PyData, okD d = true → PyData.canLay0 (kindD d) = true
  | .none, _ => by simp [kindD, PyData.canLay0, PyData.canLayAll0, PyData.strOk, mkS]
  | .bool b, _ => by cases b <;> (simp [kindD, PyData.canLay0, PyData.canLayAll0, PyData.strOk, mkS]; decide +kernel)
  | .int i, _ => by simp [kindD, PyData.canLay0, PyData.canLayAll0, PyData.strOk, mkS]
  | .str x, h => by
    have h' : PyData.strOk x = true := by simpa [okD] using h
    simp [kindD, PyData.canLay0, PyData.canLayAll0, h']
    simp [PyData.strOk, mkS]
  | .list xs, h => by
    have h' : xs.length ≤ 100000 ∧ okDs xs = true := by simpa [okD] using h
    simp only [kindD, PyData.canLay0, PyData.canLayAll0, can_kinds xs h'.2]
    simp [PyData.strOk, mkS]
  | .tuple xs, h => by
    have h' : xs.length ≤ 100000 ∧ okDs xs = true := by simpa [okD] using h
    simp only [kindD, PyData.canLay0, PyData.canLayAll0, can_kinds xs h'.2]
    simp [PyData.strOk, mkS]
  | .dict _, h => by simp [okD] at h
theorem can_kinds : ∀ ds : List PyData, okDs ds = true → PyData.canLayAll0 (kindAll ds) = true
  | [], _ => rfl
  | d :: ds, h => by
    have h' : okD d = true ∧ okDs ds = true := by simpa [okDs] using h
    simp only [kindAll, PyData.canLayAll0, can_kind d h'.1, can_kinds ds h'.2, Bool.and_self]
end
mutual
theorem depth_kind : ∀ d : PyData, PyData.depth (kindD d) ≤ PyData.depth d + 1
  | .none => by simp [kindD, PyData.depth, PyData.depthAll]
  | .bool _ => by simp [kindD, PyData.depth, PyData.depthAll]
  | .int _ => by simp [kindD, PyData.depth, PyData.depthAll]
  | .str _ => by simp [kindD, PyData.depth, PyData.depthAll]
  | .list xs => by
    have := depth_kinds xs
    simp only [kindD, PyData.depth, PyData.depthAll]
    omega
  | .tuple xs => by
    have := depth_kinds xs
    simp only [kindD, PyData.depth, PyData.depthAll]
    omega
  | .dict _ => by simp [kindD, PyData.depth, PyData.depthAll]
theorem depth_kinds : ∀ ds : List PyData, PyData.depthAll (kindAll ds) ≤ PyData.depthAll ds + 1
  | [] => by simp [kindAll, PyData.depthAll]
  | d :: ds => by
    have h1 := depth_kind d
    have h2 := depth_kinds ds
    simp only [kindAll, PyData.depthAll]
    omega
end
theorem shaped_kind {d : PyData} (h : okD d = true) (n : PyData.depth d ≤ 60) : SeqAt.shaped (kindD d) = true := by
  unfold SeqAt.shaped
  rw [can_kind d h, Bool.true_and]
  have := depth_kind d
  exact decide_eq_true (by omega)
theorem eqv_kind {d : PyData} (h : okD d = true) : PyData.eqv (kindD d) (kindD d) = true := SeqAt.eqv_refl _ (can_kind d h)
def rStrB : List V → Hp → VK → Prop := fun xs H Q => ∃ b, xs = [.bl b] ∧ Q (.str (Str.ofString (if b then "True" else "False"))) H
theorem cr_strB {X : Cx} : CallR X (.type "str") rStrB := by
  intro pins s σ H xs us Q I r h
  obtain ⟨b, rfl, q⟩ := h
  obtain ⟨u, rfl, r1⟩ := vals1 r
  cases r1
  refine PySem.P.str_of_bool ⟨.str _, H, I.tok _, ⟨_, rfl⟩, ?_⟩
  cases b <;> exact q
theorem strB {H : Hp} {Q : VK} {b : Bool} (h : Q (.str (Str.ofString (if b then "True" else "False"))) H) : rStrB [.bl b] H Q := ⟨b, rfl, h⟩
/-- tuple(a list) -/
def rTupL (K : PySem.W.Frag) : List V → Hp → VK → Prop := fun xs H Q => ∃ p ys, xs = [.ref p] ∧ ((SqL K H p ys ∧ ∀ l, H l = none → Q (.ref l) (upd H l (.tup ys))) ∨ (SqT K H p ys ∧ Q (.ref p) H))
theorem cr_tupL {X : Cx} : CallR X (.type "tuple") (rTupL X.K) := call_tuple_of
theorem tupL {K : PySem.W.Frag} {H : Hp} {Q : VK} {p : Addr} {ys : List V} (h : SqL K H p ys) (q : ∀ l, H l = none → Q (.ref l) (upd H l (.tup ys))) : rTupL K [.ref p] H Q := ⟨p, ys, rfl, .inl ⟨h, q⟩⟩
theorem tupT {K : PySem.W.Frag} {H : Hp} {Q : VK} {p : Addr} {ys : List V} (h : SqT K H p ys) (q : Q (.ref p) H) : rTupL K [.ref p] H Q := ⟨p, ys, rfl, .inr ⟨h, q⟩⟩
theorem catT {K : PySem.W.Frag} {H : Hp} {Q : VK} {a b : Addr} {xs ys : List V} (ha : SqT K H a xs) (hb : SqT K H b ys) (ne : xs ≠ []) (l : xs.length + ys.length ≤ 16777216) (q0 : ys = [] → Q (.ref a) H) (q : ys ≠ [] → ∀ p, H p = none → Q (.ref p) (upd H p (.tup (xs ++ ys)))) : rCatT K (.ref a) (.ref b) H Q :=
  ⟨a, b, xs, ys, rfl, rfl, ha, hb, ne, by rw [sizeLine_eq]; exact l, q0, q⟩
/-- (word,) + tuple(..): the two ways in one -/
theorem catT' {K : PySem.W.Frag} {H : Hp} {Q : VK} {a b : Addr} {xs ys : List V} (ha : SqT K H a xs) (hb : SqT K H b ys) (ne : xs ≠ []) (l : xs.length + ys.length ≤ 16777216) (q : ∀ p H', Same H H' → SqT K H' p (xs ++ ys) → Q (.ref p) H') : rCatT K (.ref a) (.ref b) H Q :=
  catT ha hb ne l (fun e => q a H (Same.refl H) (by rw [e, List.append_nil]; exact ha)) (fun _ p np => q p _ (ext1 np).same (SqT.of upd_same))
theorem atI_of {xs : List V} {i : Int} {k : Nat} {v : V} (e : i = k) (h : xs[k]? = some v) : atI xs i = some v := by rw [e]; exact atI_nat h
theorem cutV_A (l : List V) {j : Int} (h : 0 ≤ j) : cutV l none (some j) = l.take j.toNat := by
  unfold cutV
  rw [HT.sIx_none, sIx_int _ _ h, List.drop_zero, Nat.sub_zero, ← List.take_eq_take_min]
theorem cutV_B (l : List V) {i : Int} (h : 0 ≤ i) : cutV l (some i) none = l.drop i.toNat := by
  unfold cutV
  rw [HT.sIx_none, sIx_int _ _ h]
  rw [List.take_of_length_le (by rw [List.length_drop]; omega)]
  by_cases c : i.toNat ≤ l.length
  · rw [Nat.min_eq_left c]
  · rw [Nat.min_eq_right (by omega), List.drop_length, List.drop_eq_nil_of_le (by omega)]
theorem cutV_C (l : List V) {i j : Int} (h : 0 ≤ i) (h' : 0 ≤ j) : cutV l (some i) (some j) = (l.take j.toNat).drop i.toNat := by
  unfold cutV
  rw [sIx_int _ _ h, sIx_int _ _ h', List.drop_take]
  by_cases c : i.toNat ≤ l.length
  · rw [Nat.min_eq_left c]
    by_cases d : j.toNat ≤ l.length
    · rw [Nat.min_eq_left d]
    · rw [Nat.min_eq_right (by omega), List.take_of_length_le (by rw [List.length_drop]; omega), List.take_of_length_le (by rw [List.length_drop]; omega)]
  · rw [Nat.min_eq_right (a := i.toNat) (by omega), List.drop_length, List.drop_eq_nil_of_le (by omega)]
    simp
theorem dpAll_take {K : PySem.W.Frag} {H : Hp} : ∀ {vs : List V} {ds : List PyData} (n : Nat), DpAll K H vs ds → DpAll K H (vs.take n) (ds.take n)
  | _, _, 0, _ => .nil
  | _, _, _ + 1, .nil => .nil
  | _, _, n + 1, .cons a t => .cons a (dpAll_take n t)
theorem dpAll_drop {K : PySem.W.Frag} {H : Hp} : ∀ {vs : List V} {ds : List PyData} (n : Nat), DpAll K H vs ds → DpAll K H (vs.drop n) (ds.drop n)
  | _, _, 0, h => h
  | _, _, _ + 1, .nil => .nil
  | _, _, n + 1, .cons _ t => dpAll_drop n t
/-- a datum is appended -/
theorem dpAll_snoc {K : PySem.W.Frag} {H : Hp} {p : Addr} {vs : List V} {v : V} {ds : List PyData} {d : PyData} (e : H p = some (.lst vs)) (h : DpAll K H vs ds) (n : noLs ds = true) (hv : Dp K H v d) (nd : noL d = true) :
    DpAll K (upd H p (.lst (vs ++ [v]))) (vs ++ [v]) (ds ++ [d]) :=
  dpAll_app (dpAll_tups (Tups.upd e) _ _ n h) (.cons (dp_tups (Tups.upd e) _ _ nd hv) .nil)
/-- code points -/
def Cp (l : List Nat) : Prop := ∀ c ∈ l, c < 1114112
theorem Cp.app {a b : List Nat} (h : Cp a) (g : Cp b) : Cp (a ++ b) := fun c hc => (List.mem_append.mp hc).elim (h c) (g c)
theorem Cp.take {a : List Nat} (h : Cp a) (n : Nat) : Cp (a.take n) := fun c hc => h c (List.mem_of_mem_take hc)
theorem Cp.drop {a : List Nat} (h : Cp a) (n : Nat) : Cp (a.drop n) := fun c hc => h c (List.mem_of_mem_drop hc)
theorem Cp.ok {a : List Nat} (h : Cp a) : PyData.strOk (mkS a) = true := by
  unfold PyData.strOk mkS
  simp only [List.all_toArray, List.all_eq_true, decide_eq_true_eq]
  exact h
theorem Cp.okD {a : List Nat} (h : Cp a) : okD (.str (mkS a)) = true := by
  rw [Gx.okD]
  exact h.ok
theorem sortI {K : PySem.W.Frag} {H : Hp} {Q : VK} {a : Addr} {ns : List Int} (e : SqL K H a (ns.map V.int)) (h : ∀ (ns' : List Int) p H1, ns'.Perm ns → ns'.Pairwise (· ≤ ·) → Ext1 H H1 p (.lst (ns'.map V.int)) → Q (.ref p) H1) : rSortedI K [.ref a] H Q :=
  ⟨a, ns, rfl, e, fun ns' p pm pw np => h ns' p _ pm pw (ext1 np)⟩
end Gx
/-! ### dicts whose keys are nested tuples -/
namespace Gx
open PySem PySem.Spec PyProof.Rows L2
mutual
/-- the value v is the key k -/
inductive NV (H : Hp) : NestedKey → V → Prop
  | int (i : Int) : NV H (.num i) (.int i)
  | str (x : Str) : NV H (.text x) (.str x)
  | tup {b vs ks} : H b = some (.tup vs) → NVs H ks vs → NV H (.tup ks) (.ref b)
inductive NVs (H : Hp) : List NestedKey → List V → Prop
  | nil : NVs H [] []
  | cons {k v ks vs} : NV H k v → NVs H ks vs → NVs H (k :: ks) (v :: vs)
end
mutual
theorem NV.keeps {H H' : Hp} (t : ∀ b ys, H b = some (.tup ys) → H' b = some (.tup ys)) : ∀ (k : NestedKey) (v : V), NV H k v → NV H' k v
  | .none, _, h => nomatch h
  | .num i, _, h => by cases h; exact .int _
  | .text x, _, h => by cases h; exact .str _
  | .tup ks, _, h => by
    cases h with
    | tup h1 h2 => exact .tup (t _ _ h1) (NVs.keeps t ks _ h2)
theorem NVs.keeps {H H' : Hp} (t : ∀ b ys, H b = some (.tup ys) → H' b = some (.tup ys)) : ∀ (ks : List NestedKey) (vs : List V), NVs H ks vs → NVs H' ks vs
  | [], _, h => by cases h; exact .nil
  | k :: ks, _, h => by
    cases h with
    | cons h1 h2 => exact .cons (NV.keeps t k _ h1) (NVs.keeps t ks _ h2)
end
theorem NVs.ints {H : Hp} : ∀ l : List Int, NVs H (l.map .num) (l.map V.int)
  | [] => .nil
  | i :: l => .cons (.int i) (NVs.ints l)
mutual
theorem NV.is {P : Program} {w : World} {H : Hp} {h : Heap} (ok : HOk P w H h) : ∀ (k : NestedKey) (v : V) (u : Value), NV H k v → RelV v u → NestedIs h k u
  | .none, _, _, h, _ => nomatch h
  | .num i, _, _, h, r => by
    cases h
    obtain ⟨t, rfl⟩ := r
    exact .int _ _
  | .text x, _, _, h, r => by
    cases h
    obtain ⟨t, rfl⟩ := r
    exact .text _ _
  | .tup ks, _, _, h, r => by
    cases h with
    | tup h1 h2 =>
      obtain rfl := r
      obtain ⟨_, its, rv, o, e, hc, n, hd⟩ := ok _ _ h1
      exact .tup e hc hd (NVs.is ok ks _ _ h2 (by simpa using rv))
theorem NVs.is {P : Program} {w : World} {H : Hp} {h : Heap} (ok : HOk P w H h) : ∀ (ks : List NestedKey) (vs : List V) (us : List Value), NVs H ks vs → Vals vs us → NestedAll h ks us
  | [], _, _, h, r => by
    cases h
    cases r
    exact .nil
  | k :: ks, _, _, h, r => by
    cases h with
    | cons h1 h2 =>
      cases r with
      | cons r1 r2 => exact .cons (NV.is ok k _ _ h1 r1) (NVs.is ok ks _ _ h2 r2)
end
/-- an entry: key, the key's tuple, value -/
abbrev E3 := NestedKey × Addr × V
abbrev EV : List E3 → List (NestedKey × Addr × Value) → Prop := Paired fun p q => p.1 = q.1 ∧ p.2.1 = q.2.1 ∧ RelV p.2.2 q.2.2
/-- the dict's own object -/
def dnO (P : Program) (w : World) (a : Addr) (xs : List E3) (h : Heap) : Prop := xs.length ≤ sizeLine ∧ (a == sysModules) = false ∧ ∃ ys, EV xs ys ∧ ∃ o es ep, h.get? a = some o ∧ o.ExactDict ∧ o.data = .dict es ep ∧ es.toList = ys.map (entryOfKey (nestedKind P w)) ∧ (ys.map (·.1)).Nodup
def dnP (xs : List E3) : List (NestedKey × V) := xs.map fun x => (x.1, x.2.2)
/-- at a stands a dict with the keys and values kvs -/
def DN (P : Program) (w : World) (H : Hp) (a : Addr) (kvs : List (NestedKey × V)) : Prop := ∃ xs, H a = some (.ext (dnO P w a xs)) ∧ (∀ x ∈ xs, NV H x.1 (.ref x.2.1) ∧ x.1.depth ≤ 8) ∧ dnP xs = kvs
/-- y is the key k -/
def NK (H : Hp) (k : NestedKey) (y : V) : Prop := ∃ b, y = .ref b ∧ NV H k (.ref b) ∧ k.depth ≤ 8
theorem DN.keeps {P : Program} {w : World} {H H' : Hp} {a : Addr} {kvs : List (NestedKey × V)} (d : DN P w H a kvs) (t : ∀ b ys, H b = some (.tup ys) → H' b = some (.tup ys)) (e : H' a = H a) : DN P w H' a kvs :=
  let ⟨xs, h1, h2, h3⟩ := d
  ⟨xs, e.trans h1, fun x hx => ⟨NV.keeps t _ _ (h2 x hx).1, (h2 x hx).2⟩, h3⟩
theorem DN.same {P : Program} {w : World} {H H' : Hp} {a : Addr} {kvs : List (NestedKey × V)} (d : DN P w H a kvs) (s : Same H H') : DN P w H' a kvs :=
  let ⟨xs, h1, h2, h3⟩ := d
  ⟨xs, s _ _ h1, fun x hx => ⟨NV.keeps (fun _ _ q => s _ _ q) _ _ (h2 x hx).1, (h2 x hx).2⟩, h3⟩
theorem NK.same {H H' : Hp} {k : NestedKey} {y : V} (d : NK H k y) (s : Same H H') : NK H' k y :=
  let ⟨b, h1, h2, h3⟩ := d
  ⟨b, h1, NV.keeps (fun _ _ q => s _ _ q) _ _ h2, h3⟩
theorem ev_val {xs : List E3} {ys : List (NestedKey × Addr × Value)} (r : EV xs ys) (k : NestedKey) : RelO (valV (dnP xs) k) ((atKey ys k).map (·.2)) := by
  induction r with
  | nil => exact True.intro
  | @cons p q ps qs h t ih =>
    obtain ⟨h1, _, h2⟩ := h
    show RelO (valV ((p.1, p.2.2) :: dnP ps) k) _
    by_cases e : p.1 = k
    · have e' : q.1 = k := h1.symm.trans e
      have b : atKey (q :: qs) k = some q.2 := by simp [atKey, List.find?_cons, e']
      rw [valV_pos e, b]; exact h2
    · have e' : ¬ q.1 = k := fun z => e (h1.trans z)
      have b : atKey (q :: qs) k = atKey qs k := by simp [atKey, List.find?_cons, e']
      rw [valV_neg e, b]; exact ih
def put3 (k : NestedKey) (b : Addr) (v : V) (xs : List E3) : List E3 := if (valV (dnP xs) k).isSome then xs.map (fun x => if x.1 = k then (x.1, x.2.1, v) else x) else xs ++ [(k, b, v)]
theorem put3_p (k : NestedKey) (b : Addr) (v : V) (xs : List E3) : dnP (put3 k b v xs) = putK (dnP xs) k v := by
  unfold put3 putK
  rw [valV_any]
  split
  · unfold dnP
    rw [List.map_map, List.map_map]
    refine List.map_congr_left fun x _ => ?_
    simp only [Function.comp_apply]
    split <;> rfl
  · simp [dnP]
theorem ev_repl {xs : List E3} {ys : List (NestedKey × Addr × Value)} (r : EV xs ys) (k : NestedKey) {y : V} {u : Value} (ry : RelV y u) : EV (xs.map fun x => if x.1 = k then (x.1, x.2.1, y) else x) (ys.map (putAt k u)) := by
  induction r with
  | nil => exact .nil
  | @cons p q ps qs h t ih =>
    rw [List.map_cons, List.map_cons]
    refine .cons ?_ ih
    obtain ⟨h1, h2, h3⟩ := h
    unfold putAt
    by_cases e : p.1 = k
    · rw [if_pos e, if_pos (h1.symm.trans e)]; exact ⟨h1, h2, ry⟩
    · rw [if_neg e, if_neg (fun z => e (h1.trans z))]; exact ⟨h1, h2, h3⟩
theorem ev_put {xs : List E3} {ys : List (NestedKey × Addr × Value)} (r : EV xs ys) (k : NestedKey) {b : Addr} {y : V} {u : Value} (ry : RelV y u) : EV (put3 k b y xs) (storedH ys k b u) := by
  have e : (valV (dnP xs) k).isSome = (atKey ys k).isSome := by
    rw [(ev_val r k).isSome_eq, Option.isSome_map]
  unfold put3 storedH
  rw [e]
  by_cases q : (atKey ys k).isSome = true
  · rw [if_pos q, if_pos q]; exact ev_repl r k ry
  · rw [if_neg q, if_neg q]; exact Paired.snoc r ⟨rfl, rfl, ry⟩
section
variable {X : Cx} {pins : List (Addr × Obj)} {σ : L2.St} {H : Hp} {s : Shared} {a : Addr} {y v : V} {u r : Value} {A : Around} {E : Value → Shared → Prop} {kvs : List (NestedKey × V)} {k : NestedKey}
theorem ev_mem {xs : List E3} {ys : List (NestedKey × Addr × Value)} (r : EV xs ys) {φ : NestedKey → Addr → Prop} (h : ∀ x ∈ xs, φ x.1 x.2.1) : ∀ x ∈ ys, φ x.1 x.2.1 := by
  induction r with
  | nil => exact fun x hx => nomatch hx
  | @cons p q ps qs g t ih =>
    intro x hx
    rcases List.mem_cons.mp hx with rfl | hx
    · have := h p List.mem_cons_self
      rw [g.1, g.2.1] at this
      exact this
    · exact ih (fun x hx => h x (List.mem_cons_of_mem _ hx)) x hx
theorem nk_is (I : Inv X pins σ H s) (g : NK H k y) (ry : RelV y u) : ∃ b, u = .ref b ∧ (nestedKind X.prog X.w).is s.heap k b := by
  obtain ⟨b, rfl, h2, h3⟩ := g
  obtain rfl := ry
  exact ⟨b, rfl, NV.is I.hok _ _ _ h2 rfl, h3⟩
theorem dn_of (I : Inv X pins σ H s) {xs : List E3} (e : H a = some (.ext (dnO X.prog X.w a xs))) (g : ∀ x ∈ xs, NV H x.1 (.ref x.2.1) ∧ x.1.depth ≤ 8) : xs.length ≤ sizeLine ∧ (a == sysModules) = false ∧ ∃ ys, EV xs ys ∧ s.heap.DictOfH (nestedKind X.prog X.w) a ys := by
  obtain ⟨⟨z, hd, ys, ev, o, es, ep, h1, h2, h3, h4, h5⟩, _⟩ := I.hok _ _ e
  exact ⟨z, hd, ys, ev, o, es, ep, h1, h2, h3, h4, ev_mem ev (φ := fun k b => (nestedKind X.prog X.w).is s.heap k b) (fun x hx => ⟨NV.is I.hok _ _ _ (g x hx).1 rfl, (g x hx).2⟩), h5⟩
theorem n_room (hu : A.units + 64 < cLine) : (nestedKind X.prog X.w).room A.in1 := by
  show A.units + 1 + 8 < cLine
  omega
theorem n_getItem {Q : Value → Shared → Prop} (hu : A.units + 64 < cLine) (I : Inv X pins σ H s) (d : DN X.prog X.w H a kvs) (g : NK H k y) (hv : valV kvs k = some v) (ry : RelV y u) (h : ∀ w' s', Inv X pins σ H s' → RelV v w' → Q w' s') :
    wpAny (model X.prog X.w) A (getItem (.ref a) u) Q E s := by
  obtain ⟨xs, e, gx, rfl⟩ := d
  obtain ⟨b, rfl, kb⟩ := nk_is I g ry
  obtain ⟨z, hd, ys, ev, dd⟩ := dn_of I e gx
  obtain ⟨w', hw, rw'⟩ := RelO.some_of (v := v) (o := (atKey ys k).map (·.2)) (by rw [← hv]; exact ev_val ev k)
  obtain ⟨p, hp, hp2⟩ := Option.map_eq_some_iff.mp hw
  refine wpAny_getItem_heap (n_room (X := X) hu) kb dd hp ?_
  rw [hp2]
  exact h w' _ (I.tok _) rw'
theorem n_in {Q : Value → Shared → Prop} (hu : A.units + 64 < cLine) (I : Inv X pins σ H s) (d : DN X.prog X.w H a kvs) (g : NK H k y) (ry : RelV y u) (h : ∀ s', Inv X pins σ H s' → Q (.bool (valV kvs k).isSome) s') :
    wpAny (model X.prog X.w) A (compareOp .In u (.ref a)) Q E s := by
  obtain ⟨xs, e, gx, rfl⟩ := d
  obtain ⟨b, rfl, kb⟩ := nk_is I g ry
  obtain ⟨z, hd, ys, ev, dd⟩ := dn_of I e gx
  refine wpAny_in_heap (n_room (X := X) hu) kb hd dd ?_
  have q := (ev_val ev k).isSome_eq
  rw [Option.isSome_map] at q
  rw [← q]
  exact h _ (I.tok _)
theorem n_notIn {Q : Value → Shared → Prop} (hu : A.units + 64 < cLine) (I : Inv X pins σ H s) (d : DN X.prog X.w H a kvs) (g : NK H k y) (ry : RelV y u) (h : ∀ s', Inv X pins σ H s' → Q (.bool (!(valV kvs k).isSome)) s') :
    wpAny (model X.prog X.w) A (compareOp .NotIn u (.ref a)) Q E s := by
  obtain ⟨xs, e, gx, rfl⟩ := d
  obtain ⟨b, rfl, kb⟩ := nk_is I g ry
  obtain ⟨z, hd, ys, ev, dd⟩ := dn_of I e gx
  refine wpAny_notIn_heap (n_room (X := X) hu) kb hd dd ?_
  have q := (ev_val ev k).isSome_eq
  rw [Option.isSome_map] at q
  rw [← q]
  exact h _ (I.tok _)
theorem put3_len (k : NestedKey) (b : Addr) (v : V) (xs : List E3) : (put3 k b v xs).length ≤ xs.length + 1 := by
  unfold put3
  split
  · rw [List.length_map]; omega
  · rw [List.length_append, List.length_singleton]; omega
theorem put3_all {φ : NestedKey → Addr → Prop} {k : NestedKey} {b : Addr} {v : V} {xs : List E3} (h : ∀ x ∈ xs, φ x.1 x.2.1) (g : φ k b) : ∀ x ∈ put3 k b v xs, φ x.1 x.2.1 := by
  intro x hx
  unfold put3 at hx
  split at hx
  · obtain ⟨z, hz, rfl⟩ := List.mem_map.mp hx
    split
    · exact h z hz
    · exact h z hz
  · rcases List.mem_append.mp hx with hx | hx
    · exact h x hx
    · cases List.mem_singleton.mp hx
      exact g
theorem dnO_stay {P : Program} {w : World} {xs : List E3} (h1 h2 : Heap) (p : dnO P w a xs h1) (k : ∀ o, h1.get? a = some o → h2.get? a = some o) : dnO P w a xs h2 := by
  obtain ⟨z, hd, ys, ev, o, es, ep, e1, e2, e3, e4, e5⟩ := p
  exact ⟨z, hd, ys, ev, o, es, ep, k _ e1, e2, e3, e4, e5⟩
theorem n_setItem {Q : Unit → Shared → Prop} (hu : A.units + 64 < cLine) (I : Inv X pins σ H s) (d : DN X.prog X.w H a kvs) (g : NK H k y) (hl : kvs.length < sizeLine) (ry : RelV y u) (rv : RelV v r)
    (h : ∀ H' s', DN X.prog X.w H' a (putK kvs k v) → (∀ b, b ≠ a → H' b = H b) → Inv X pins σ H' s' → Q () s') : wpAny (model X.prog X.w) A (setItem (.ref a) u r) Q E s := by
  obtain ⟨xs, e, gx, rfl⟩ := d
  obtain ⟨b, ey, nb, hk8⟩ := id g
  obtain ⟨b', rfl, kb⟩ := nk_is I g ry
  subst ey
  obtain rfl : b' = b := by
    have : Value.ref b' = Value.ref b := ry
    injection this
  obtain ⟨z, hd, ys, ev, dd⟩ := dn_of I e gx
  have hlx : xs.length < sizeLine := by unfold dnP at hl; rwa [List.length_map] at hl
  have hz : ys.length ≤ sizeLine := by rw [← Paired.length ev]; exact z
  refine wpAny_setItem_heap (hsz := hz) (n_room (X := X) hu) kb dd fun h' dd' hs => ?_
  have tk : ∀ c zs, H c = some (.tup zs) → (upd H a (.ext (dnO X.prog X.w a (put3 k b' v xs)))) c = some (.tup zs) := fun c zs ec => by
    rw [upd_ne (ne_of ec e (fun z => nomatch z))]
    exact ec
  refine h (upd H a (.ext (dnO X.prog X.w a (put3 k b' v xs)))) _ ⟨_, upd_same, ?_, put3_p _ _ _ _⟩ (fun c hc => upd_ne hc) ?_
  · exact put3_all (φ := fun k b => NV _ k (.ref b) ∧ k.depth ≤ 8) (fun x hx => ⟨NV.keeps tk _ _ (gx x hx).1, (gx x hx).2⟩) ⟨NV.keeps tk _ _ nb, hk8⟩
  · obtain ⟨q, es, ep, hq, h2, h3, h4, _, h5⟩ := dd'
    have hlen := put3_len k b' v xs
    refine d_write I (by rw [e]; exact True.intro) hs ⟨q, hq⟩ ⟨⟨by omega, hd, _, ev_put ev k rv, q, es, ep, hq, h2, h3, h4, h5⟩, ⟨q, hq⟩, dnO_stay⟩
/-- {} -/
def tNNew (P : Program) (w : World) : TE := fun _ H Q => ∀ p H', H p = none → DN P w H' p [] → (∀ b, b ≠ p → H' b = H b) → Q (.ref p) H'
theorem pe_nnew {pos : Pos} : PE X (.Dict [] [] pos) (tNNew X.prog X.w) := ⟨fun pins s σ H Q I h => by
  have ok : dnO X.prog X.w s.heap.objs.size [] (s.heap.push { cls := .type "dict", data := .dict #[] }) :=
    ⟨Nat.zero_le _, beq_eq_false_iff_ne.mpr (Ne.symm (Nat.ne_of_lt I.big)), [], .nil, _, #[], 0, Heap.get?_push_size _ rfl, ⟨rfl, rfl, rfl⟩, rfl, rfl, List.nodup_nil⟩
  refine wpAny_Dict_empty ⟨.ref s.heap.objs.size, upd H s.heap.objs.size (.ext (dnO X.prog X.w s.heap.objs.size [])), I.laid (t' := s.toks) (fun _ _ q => Heap.get?_push_of_some _ q) (Nat.le_refl _) ⟨ok, ⟨_, Heap.get?_push_size _ rfl⟩, dnO_stay⟩, rfl, ?_⟩
  exact h _ _ (I.hok.fresh (Nat.le_refl _)) ⟨[], upd_same, (fun x hx => nomatch hx), rfl⟩ fun b hb => upd_ne hb⟩
def tNGet (P : Program) (w : World) (td ty : TE) : TE := fun σ H Q => td σ H fun x H1 => ty σ H1 fun y H2 => ∃ a kvs k v, x = .ref a ∧ DN P w H2 a kvs ∧ NK H2 k y ∧ valV kvs k = some v ∧ Q v H2
def tNIn (P : Program) (w : World) (ty td : TE) : TE := fun σ H Q => ty σ H fun y H1 => td σ H1 fun x H2 => ∃ a kvs k, x = .ref a ∧ DN P w H2 a kvs ∧ NK H2 k y ∧ Q (.bl (valV kvs k).isSome) H2
def tNNotIn (P : Program) (w : World) (ty td : TE) : TE := fun σ H Q => ty σ H fun y H1 => td σ H1 fun x H2 => ∃ a kvs k, x = .ref a ∧ DN P w H2 a kvs ∧ NK H2 k y ∧ Q (.bl (!(valV kvs k).isSome)) H2
def sNPut (P : Program) (w : World) (td ty tv : TE) : TS := fun D σ H => tv σ H fun v H1 => td σ H1 fun x H2 => ty σ H2 fun y H3 => ∃ a kvs k, x = .ref a ∧ DN P w H3 a kvs ∧ NK H3 k y ∧ kvs.length < sizeLine ∧ ∀ H4, DN P w H4 a (putK kvs k v) → (∀ b, b ≠ a → H4 b = H3 b) → D.nx σ H4
variable {o i e value : Expr} {pos pos' tpos : Pos} {td ty tv : TE}
theorem dn_typeIs (I : Inv X pins σ H s) (d : DN X.prog X.w H a kvs) : s.TypeIs (.ref a) "dict" := by
  obtain ⟨xs, e, gx, rfl⟩ := d
  obtain ⟨z, hd, ys, ev, dd⟩ := dn_of I e gx
  exact dd.typeIs
theorem pe_nget (hu : X.A.units + 64 < cLine) (ho : PE X o td) (hi : PE X i ty) (hs : NoSl i) : PE X (.Subscript o i pos) (tNGet X.prog X.w td ty) := by
  refine ⟨fun pins s σ H Q I h => ?_⟩
  refine subD_of PySem.F.slot_dict_getitem.lookup hs (thn (ho.run pins s σ H _ I h) fun u s1 ⟨x, H1, I1, rx, q1⟩ => thn (hi.run pins s1 σ H1 _ I1 q1) fun iv s2 ⟨y, H2, I2, ry, a, kvs, k, v, ex, d, g, hv, q2⟩ => ?_)
  subst ex
  obtain rfl : u = Value.ref a := rx
  exact ⟨dn_typeIs I2 d, n_getItem hu I2 d g hv ry fun w' s3 I3 rw' => ⟨v, H2, I3, rw', q2⟩⟩
theorem pc_nin (hu : X.A.units + 64 < cLine) (hi : PE X i ty) (ho : PE X o td) : PC X .In i o (tNIn X.prog X.w ty td) := by
  refine ⟨fun pins s σ H Q I h => ?_⟩
  refine thn (hi.run pins s σ H _ I h) fun iv s1 ⟨y, H1, I1, ry, q1⟩ => thn (ho.run pins s1 σ H1 _ I1 q1) fun u s2 ⟨x, H2, I2, rx, a, kvs, k, ex, d, g, q2⟩ => ?_
  subst ex
  obtain rfl : u = Value.ref a := rx
  exact n_in hu I2 d g ry fun s3 I3 => ⟨.bl (valV kvs k).isSome, H2, I3, rfl, q2⟩
theorem pc_nnotin (hu : X.A.units + 64 < cLine) (hi : PE X i ty) (ho : PE X o td) : PC X .NotIn i o (tNNotIn X.prog X.w ty td) := by
  refine ⟨fun pins s σ H Q I h => ?_⟩
  refine thn (hi.run pins s σ H _ I h) fun iv s1 ⟨y, H1, I1, ry, q1⟩ => thn (ho.run pins s1 σ H1 _ I1 q1) fun u s2 ⟨x, H2, I2, rx, a, kvs, k, ex, d, g, q2⟩ => ?_
  subst ex
  obtain rfl : u = Value.ref a := rx
  exact n_notIn hu I2 d g ry fun s3 I3 => ⟨.bl (!(valV kvs k).isSome), H2, I3, rfl, q2⟩
theorem ps_nput (hu : X.A.units + 64 < cLine) (ho : PE X o td) (hi : PE X i ty) (hv : PE X value tv) (hs : swapsWith value (some (.Subscript o i pos')) pos.line X.env = pure false) :
    PS X (.Assign [.Subscript o i pos'] value pos) (sNPut X.prog X.w td ty tv) := by
  refine ⟨fun pins s σ H D I h => ?_⟩
  refine wpAny_Assign_Subscript (thn (hv.run pins s σ H _ I h) fun r s1 ⟨v, H1, I1, rv, q1⟩ => thn (ho.run pins s1 σ H1 _ I1 q1) fun u s2 ⟨x, H2, I2, rx, q2⟩ => thn (hi.run pins s2 σ H2 _ I2 q2) fun iv s3 ⟨y, H3, I3, ry, a, kvs, k, ex, d, g, hl, q3⟩ => ?_) hs
  subst ex
  obtain rfl : u = Value.ref a := rx
  exact n_setItem hu I3 d g hl ry rv fun H4 s4 d4 k4 I4 => ⟨σ, H4, I4, q3 H4 d4 k4⟩
/-- len(d) -/
def rLenN (P : Program) (w : World) : List V → Hp → VK → Prop := fun xs H Q => ∃ p kvs, xs = [.ref p] ∧ DN P w H p kvs ∧ Q (.int ((kvs.length : Nat) : Int)) H
theorem cr_lenN {X : Cx} : CallR X (.builtin "len") (rLenN X.prog X.w) := by
  intro pins s σ H xs us Q I r h
  obtain ⟨p, kvs, rfl, ⟨xs, e, gx, rfl⟩, q⟩ := h
  obtain ⟨u, rfl, r1⟩ := vals1 r
  obtain rfl : u = Value.ref p := r1
  obtain ⟨z, hd, ys, ev, dd⟩ := dn_of I e gx
  refine call_len_dictH hd dd ?_ ?_
  · rw [← Paired.length ev]
    have : sizeLine < 2 ^ 62 := by rw [sizeLine_eq]; decide
    omega
  · have el : ys.length = (dnP xs).length := by unfold dnP; rw [List.length_map, Paired.length ev]
    rw [el]
    exact ⟨.int ((dnP xs).length : Nat), H, I.tok _, ⟨_, rfl⟩, q⟩
end
end Gx
/-! ### dicts, sequences that are lists or tuples, while -/
namespace Gx
open PySem PySem.Spec PyProof.Rows L2
theorem hu1 {A : Around} (h : A.units + 64 < cLine) : A.units + 1 < cLine := by omega
/-- a list or a tuple -/
def Sq (K : PySem.W.Frag) (H : Hp) (a : Addr) (xs : List V) : Prop := SqL K H a xs ∨ SqT K H a xs
theorem Sq.same {K : PySem.W.Frag} {H H' : Hp} {a : Addr} {xs : List V} (h : Sq K H a xs) (e : Same H H') : Sq K H' a xs := h.elim (fun z => .inl (e.seq z)) fun z => .inr (e.seqT z)
/-- walked, a list or a tuple -/
def iSq (K : PySem.W.Frag) (tl : TE) : TI := fun σ H R => tl σ H fun x H1 => ∃ a, x = .ref a ∧ (((∃ xs, SqL K H1 a xs) ∧ R (Itl K a) H1) ∨ ((∃ xs, SqT K H1 a xs) ∧ R (Itt K a) H1))
theorem pi_seq {X : Cx} {tg l : Expr} {tl : TE} (hl : PE X l tl) : PI X tg l (iSq X.K tl) := by
  refine ⟨fun pins s σ H R I h => ?_⟩
  refine thn (hl.run pins s σ H _ I h) fun v s1 ⟨x, H1, I1, r1, q1⟩ => ?_
  obtain ⟨a, e, q⟩ := q1
  subst e
  cases r1
  rcases q with ⟨⟨xs, hq⟩, q⟩ | ⟨⟨xs, hq⟩, q⟩
  · obtain ⟨its, rv, p, hz⟩ := I1.list hq
    refine wpAny_pyIter_list p.isList ?_
    refine ⟨s1.heap.objs.size, [s1.heap.objs.size], _, _, H1, rfl, I1.kept (t' := s1.toks) fun b o e => Heap.get?_push_of_some _ e, turn_list a _, ⟨_, Heap.get?_push_size _ rfl, rfl, rfl⟩, fun b hb => ?_, q⟩
    have e : b = s1.heap.objs.size := by simpa using hb
    subst e
    exact I1.fpOk (Nat.le_refl _) (I1.hok.fresh (Nat.le_refl _))
  · obtain ⟨its, rv, p, hz⟩ := I1.tuple hq
    refine wpAny_pyIter_tuple (show s1.heap.IsTuple a its.toArray from p) ?_
    refine ⟨s1.heap.objs.size, [s1.heap.objs.size], _, _, H1, rfl, I1.kept (t' := s1.toks) fun b o e => Heap.get?_push_of_some _ e, turn_tuple a _, ⟨_, Heap.get?_push_size _ rfl, rfl, rfl⟩, fun b hb => ?_, q⟩
    have e : b = s1.heap.objs.size := by simpa using hb
    subst e
    exact I1.fpOk (Nat.le_refl _) (I1.hok.fresh (Nat.le_refl _))
section
variable {σ : L2.St} {H : Hp} {Q : VK} {D : Ends} {td ty tv tk : TE} {K : PySem.W.Frag} {P : Program} {w : World}
theorem isq {R : It → Hp → Prop} (h : td σ H fun x H1 => ∃ a, x = .ref a ∧ (((∃ xs, SqL K H1 a xs) ∧ R (Itl K a) H1) ∨ ((∃ xs, SqT K H1 a xs) ∧ R (Itt K a) H1))) : iSq K td σ H R := h
theorem for_sq {H0 : Hp} {a : Addr} {xs : List V} {g : TG} {tb : TS} (Pv : Nat → L2.St → Hp → Prop) (hq : Sq K H0 a xs) (h0 : Pv 0 σ H) (hl : ∀ i σ H', i ≤ xs.length → Pv i σ H' → Same H0 H')
    (hs : ∀ i x σ H, xs[i]? = some x → Pv i σ H → g x σ H fun σ2 H2 => tb { D with nx := Pv (i + 1), ct := Pv (i + 1), bk := D.nx } σ2 H2) (hd : ∀ σ H, Pv xs.length σ H → D.nx σ H) :
    (((∃ xs, SqL K H a xs) ∧ ∃ W : Nat → Nat → L2.St → Hp → Prop, (∃ m, W 0 m σ H) ∧ ∀ i m σ H, W i m σ H →
      ((Itl K a).stop i H ∧ D.nx σ H) ∨ ((Itl K a).go i H ∧ ∃ N : L2.St → Hp → Prop, (∀ σ' H', N σ' H' → ∃ m', m' < m ∧ W (i + 1) m' σ' H') ∧ ∀ x H', (Itl K a).yld i H x H' → g x σ H' fun σ2 H2 => tb { D with nx := N, ct := N, bk := D.nx } σ2 H2))
    ∨ ((∃ xs, SqT K H a xs) ∧ ∃ W : Nat → Nat → L2.St → Hp → Prop, (∃ m, W 0 m σ H) ∧ ∀ i m σ H, W i m σ H →
      ((Itt K a).stop i H ∧ D.nx σ H) ∨ ((Itt K a).go i H ∧ ∃ N : L2.St → Hp → Prop, (∀ σ' H', N σ' H' → ∃ m', m' < m ∧ W (i + 1) m' σ' H') ∧ ∀ x H', (Itt K a).yld i H x H' → g x σ H' fun σ2 H2 => tb { D with nx := N, ct := N, bk := D.nx } σ2 H2))) := by
  rcases hq with hq | hq
  · exact .inl ⟨⟨_, (hl 0 σ H (Nat.zero_le _) h0).seq hq⟩, for_list Pv h0 (fun i σ H' hi p => (hl i σ H' hi p).seq hq) hs hd⟩
  · exact .inr ⟨⟨_, (hl 0 σ H (Nat.zero_le _) h0).seqT hq⟩, for_tup Pv h0 (fun i σ H' hi p => (hl i σ H' hi p).seqT hq) hs hd⟩
theorem lc_sq {a : Addr} {xs : List V} {g : TG} {tt : TT} {te : TE} {vs : List Nat} {Qd : Addr → Hp → Prop} (hq : Sq K H a xs) (hne : ∀ D, H D = none →
    ∃ Pv : Nat → Hp → Prop, Pv 0 (upd H D (.lst [])) ∧ (∀ i H', i ≤ xs.length → Pv i H' → Same H H') ∧
    (∀ i x H, xs[i]? = some x → Pv i H → g x (wipe σ vs) H fun σ2 H2 => wipe σ2 vs = wipe σ vs ∧ tt σ2 H2 fun b H3 =>
      if b = true then te σ2 H3 fun y H4 => ∃ acc, H4 D = some (.lst acc) ∧ acc.length < sizeLine ∧ Pv (i + 1) (upd H4 D (.lst (acc ++ [y]))) else Pv (i + 1) H3) ∧ (∀ H, Pv xs.length H → Qd D H)) :
    (((∃ xs, SqL K H a xs) ∧ ∀ D, H D = none → ∃ W : Nat → Nat → Hp → Prop, (∃ m, W 0 m (upd H D (.lst []))) ∧ ∀ i m H, W i m H →
      ((Itl K a).stop i H ∧ Qd D H) ∨ ((Itl K a).go i H ∧ ∃ Nx : Hp → Prop, (∀ H', Nx H' → ∃ m', m' < m ∧ W (i + 1) m' H') ∧ ∀ x H', (Itl K a).yld i H x H' → g x (wipe σ vs) H' fun σ2 H2 => wipe σ2 vs = wipe σ vs ∧ tt σ2 H2 fun b H3 =>
        if b = true then te σ2 H3 fun y H4 => ∃ acc, H4 D = some (.lst acc) ∧ acc.length < sizeLine ∧ Nx (upd H4 D (.lst (acc ++ [y]))) else Nx H3))
    ∨ ((∃ xs, SqT K H a xs) ∧ ∀ D, H D = none → ∃ W : Nat → Nat → Hp → Prop, (∃ m, W 0 m (upd H D (.lst []))) ∧ ∀ i m H, W i m H →
      ((Itt K a).stop i H ∧ Qd D H) ∨ ((Itt K a).go i H ∧ ∃ Nx : Hp → Prop, (∀ H', Nx H' → ∃ m', m' < m ∧ W (i + 1) m' H') ∧ ∀ x H', (Itt K a).yld i H x H' → g x (wipe σ vs) H' fun σ2 H2 => wipe σ2 vs = wipe σ vs ∧ tt σ2 H2 fun b H3 =>
        if b = true then te σ2 H3 fun y H4 => ∃ acc, H4 D = some (.lst acc) ∧ acc.length < sizeLine ∧ Nx (upd H4 D (.lst (acc ++ [y]))) else Nx H3))) := by
  rcases hq with hq | hq
  · refine .inl ⟨⟨_, hq⟩, fun D nD => ?_⟩
    obtain ⟨Pv, h0, hl, hs, hd⟩ := hne D nD
    exact lc_list Pv h0 (fun i H' hi p => (hl i H' hi p).seq hq) hs hd
  · refine .inr ⟨⟨_, hq⟩, fun D nD => ?_⟩
    obtain ⟨Pv, h0, hl, hs, hd⟩ := hne D nD
    exact lc_tup Pv h0 (fun i H' hi p => (hl i H' hi p).seqT hq) hs hd
theorem ixQ {p : Addr} {xs : List V} {i : Int} {k : Nat} {v : V} (c : Sq K H p xs) (e : i = k) (a : xs[k]? = some v) (h : Q v H) : rIx K (.ref p) (.int i) H Q :=
  c.elim (fun z => .inl ⟨p, xs, i, v, rfl, rfl, z, atI_of e a, h⟩) fun z => .inr (.inl ⟨p, xs, i, v, rfl, rfl, z, atI_of e a, h⟩)
theorem lenQ {p : Addr} {xs : List V} (c : Sq K H p xs) (h : Q (.int xs.length) H) : rLenQ K [.ref p] H Q := c.elim (fun z => lenL z h) fun z => lenT z h
theorem din (h : ty σ H fun y H1 => td σ H1 fun x H2 => ∃ a o, x = .ref a ∧ DGet H2 a y o ∧ Q (.bl o.isSome) H2) : tDIn ty td σ H Q := h
theorem dnotin (h : ty σ H fun y H1 => td σ H1 fun x H2 => ∃ a o, x = .ref a ∧ DGet H2 a y o ∧ Q (.bl (!o.isSome)) H2) : tDNotIn ty td σ H Q := h
theorem dget (h : td σ H fun x H1 => ty σ H1 fun y H2 => ∃ a v, x = .ref a ∧ DGet H2 a y (some v) ∧ Q v H2) : tDGet td ty σ H Q := h
theorem dput (h : tv σ H fun v H1 => td σ H1 fun x H2 => ty σ H2 fun y H3 => ∃ a H4, x = .ref a ∧ DPut H3 a y v H4 ∧ D.nx σ H4) : sDPut td ty tv D σ H := h
theorem dnewK (h : ∀ p, H p = none → Q (.ref p) (upd H p (.dK []))) : tDNewK σ H Q := h
theorem disp1 (h : ∀ p, H p = none → tk σ (upd H p (.dK [])) fun x H1 => tv σ H1 fun y H2 => H2 p = some (.dK []) ∧ ∃ kvs : List (Key × V), [(x, y)] = kvs.map (fun kv => (kV kv.1, kv.2)) ∧ kvs.length ≤ 15 ∧ Q (.ref p) (upd H2 p (.dK (mergeK [] kvs)))) : tDisp [(tk, tv)] σ H Q := h
theorem nin (h : ty σ H fun y H1 => td σ H1 fun x H2 => ∃ a kvs k, x = .ref a ∧ DN P w H2 a kvs ∧ NK H2 k y ∧ Q (.bl (valV kvs k).isSome) H2) : tNIn P w ty td σ H Q := h
theorem nnotin (h : ty σ H fun y H1 => td σ H1 fun x H2 => ∃ a kvs k, x = .ref a ∧ DN P w H2 a kvs ∧ NK H2 k y ∧ Q (.bl (!(valV kvs k).isSome)) H2) : tNNotIn P w ty td σ H Q := h
theorem nget (h : td σ H fun x H1 => ty σ H1 fun y H2 => ∃ a kvs k v, x = .ref a ∧ DN P w H2 a kvs ∧ NK H2 k y ∧ valV kvs k = some v ∧ Q v H2) : tNGet P w td ty σ H Q := h
theorem nput (h : tv σ H fun v H1 => td σ H1 fun x H2 => ty σ H2 fun y H3 => ∃ a kvs k, x = .ref a ∧ DN P w H3 a kvs ∧ NK H3 k y ∧ kvs.length < sizeLine ∧ ∀ H4, DN P w H4 a (putK kvs k v) → (∀ b, b ≠ a → H4 b = H3 b) → D.nx σ H4) : sNPut P w td ty tv D σ H := h
theorem nnew (h : ∀ p H', H p = none → DN P w H' p [] → (∀ b, b ≠ p → H' b = H b) → Q (.ref p) H') : tNNew P w σ H Q := h
theorem dc {wi : TI} {g : TG} {tt : TT} {vs : List Nat} (h : wi σ H fun J H1 => ∀ D, H1 D = none → ∃ W : Nat → Nat → Hp → Prop, (∃ m, W 0 m (upd H1 D (.dK []))) ∧ ∀ i m H, W i m H →
  (J.stop i H ∧ Q (.ref D) H) ∨ (J.go i H ∧ ∃ Nx : Hp → Prop, (∀ H', Nx H' → ∃ m', m' < m ∧ W (i + 1) m' H') ∧ ∀ x H', J.yld i H x H' → g x (wipe σ vs) H' fun σ2 H2 => wipe σ2 vs = wipe σ vs ∧ tt σ2 H2 fun b H3 =>
    if b = true then tk σ2 H3 fun y H4 => tv σ2 H4 fun z H5 => ∃ kvs k, y = kV k ∧ H5 D = some (.dK kvs) ∧ kvs.length < sizeLine ∧ Nx (upd H5 D (.dK (putK kvs k z))) else Nx H3)) : tDc wi g tt tk tv vs σ H Q := h
theorem wh {c : TT} {tb : TS} {W : Nat → L2.St → Hp → Prop} {m0 : Nat} (h0 : W m0 σ H) (hs : ∀ m σ H, W m σ H → c σ H fun b H1 => if b = true then ∃ N : L2.St → Hp → Prop, (∀ σ' H', N σ' H' → ∃ m', m' < m ∧ W m' σ' H') ∧ tb { D with nx := N, ct := N, bk := D.nx } σ H1 else D.nx σ H1) : tWhile c tb D σ H := ⟨W, ⟨m0, h0⟩, hs⟩
/-- bool(x) -/
def rBool1 : List V → Hp → VK → Prop := fun xs H Q => (∃ i, xs = [.int i] ∧ Q (.bl (i != 0)) H) ∨ ∃ k, xs = [.bl k] ∧ Q (.bl k) H
theorem cr_bool1 {X : Cx} : CallR X (.type "bool") rBool1 := call_bool1
theorem boolB {b : Bool} (h : Q (.bl b) H) : rBool1 [.bl b] H Q := .inr ⟨b, rfl, h⟩
theorem intB {b : Bool} (h : Q (.int (if b then 1 else 0)) H) : rInt1 [.bl b] H Q := .inr ⟨b, rfl, h⟩
/-- the dict at d holds at each s of o the number f s -/
def DM (H : Hp) (d : Addr) (n : Nat) (o : List Nat) (f : Nat → Nat) : Prop := ∃ kvs : List (Key × V), H d = some (.dK kvs) ∧ kvs.length ≤ n ∧ ∀ s ∈ o, valV kvs (.inl (s : Nat)) = some (.int (f s : Nat))
theorem DM.same {H H' : Hp} {d : Addr} {n : Nat} {o : List Nat} {f : Nat → Nat} (h : DM H d n o f) (e : Same H H') : DM H' d n o f := let ⟨kvs, a, b, c⟩ := h; ⟨kvs, e _ _ a, b, c⟩
end
end Gx
namespace Gx
open PySem PySem.Spec PyProof.Rows L2
/-- a dict made over a list that stays -/
theorem dc_list {K : PySem.W.Frag} {H0 : Hp} {a : Addr} {xs : List V} {g : TG} {tt : TT} {tk tv : TE} {vs : List Nat} {σ : L2.St} {H1 : Hp} {D : Addr} {Qd : Hp → Prop} (Pv : Nat → Hp → Prop) (hq : SqL K H0 a xs) (h0 : Pv 0 (upd H1 D (.dK []))) (hl : ∀ i H, i ≤ xs.length → Pv i H → Same H0 H)
    (hs : ∀ i x H, xs[i]? = some x → Pv i H → g x (wipe σ vs) H fun σ2 H2 => wipe σ2 vs = wipe σ vs ∧ tt σ2 H2 fun b H3 =>
      if b = true then tk σ2 H3 fun y H4 => tv σ2 H4 fun z H5 => ∃ kvs k, y = kV k ∧ H5 D = some (.dK kvs) ∧ kvs.length < sizeLine ∧ Pv (i + 1) (upd H5 D (.dK (putK kvs k z))) else Pv (i + 1) H3) (hd : ∀ H, Pv xs.length H → Qd H) :
    ∃ W : Nat → Nat → Hp → Prop, (∃ m, W 0 m (upd H1 D (.dK []))) ∧ ∀ i m H, W i m H →
      ((Itl K a).stop i H ∧ Qd H) ∨ ((Itl K a).go i H ∧ ∃ Nx : Hp → Prop, (∀ H', Nx H' → ∃ m', m' < m ∧ W (i + 1) m' H') ∧ ∀ x H', (Itl K a).yld i H x H' → g x (wipe σ vs) H' fun σ2 H2 => wipe σ2 vs = wipe σ vs ∧ tt σ2 H2 fun b H3 =>
        if b = true then tk σ2 H3 fun y H4 => tv σ2 H4 fun z H5 => ∃ kvs k, y = kV k ∧ H5 D = some (.dK kvs) ∧ kvs.length < sizeLine ∧ Nx (upd H5 D (.dK (putK kvs k z))) else Nx H3) := by
  refine ⟨fun i m H => m + i = xs.length ∧ Pv i H, ⟨xs.length, rfl, h0⟩, ?_⟩
  rintro i m H ⟨hm, p⟩
  have q := (hl i H (by omega) p).seq hq
  cases m with
  | zero =>
    have e : i = xs.length := by omega
    subst e
    exact .inl ⟨⟨xs, q, Nat.le_refl _⟩, hd H p⟩
  | succ m =>
    have hlt : i < xs.length := by omega
    refine .inr ⟨⟨xs, xs[i], q, List.getElem?_eq_getElem hlt⟩, Pv (i + 1), fun H' p' => ⟨m, Nat.lt_succ_self m, by omega, p'⟩, ?_⟩
    rintro x H' ⟨rfl, y⟩
    exact hs i x _ (y xs q) p
end Gx
namespace Gx
open PySem PySem.Spec PyProof.Rows L2
section
variable {X : Cx}
theorem sw_dict {kx vx : Expr} {gs : List Comprehension} {scope : Scope} {pos py : Pos} {y : Str} {l : Nat} {env : Env} (hk : env.scope.kind = .function) (hy : env.scope.names.lookup y = some .local) (hl : (py.line == pos.line) = true)
    (ha : (scope.names.any fun (n, k) => n == y && (k == .local || k == .cell)) = false) : swapsWith (.DictComp kx vx gs scope pos) (some (.Name y py)) l env = pure true := by
  have ky : env.kindOf y = some .local := hy
  have hb : env.blockKind = .function := by unfold Env.blockKind; rw [hk]; rfl
  unfold swapsWith
  simp only [hb, ky, ha, Expr.pos, hl]
  rfl
/-- name = {k: v for ..} on one line, the name a local -/
theorem ps_setDc {i : Nat} {y : Str} {py : Pos} {kx vx tg iter : Expr} {ifs : List Expr} {scope : Scope} {own : List (Str × Nat)} {pos spos : Pos} {wi : TI} {g : TG} {tt : TT} {tk tv : TE} (hc : X.calm = true) (hN : X.N.Nodup) (hy : X.N[i]? = some y) (hyl : X.env.scope.names.lookup y = some .local)
    (hsw : swapsWith (.DictComp kx vx [⟨tg, iter, ifs, 0⟩] scope pos) (some (.Name y py)) spos.line X.env = pure true) (hi : PI X tg iter wi) (ok : BlkOk X.N X.env.scope scope own)
    (hg : ∀ (s : Shared) (H : Hp) (C : Addr) (cl : List (Str × Addr)) (fp : List Addr), PG (X.blk s H scope (compEnvC scope cl C X.env) fp) tg g) (ht : ∀ (s : Shared) (H : Hp) (C : Addr) (cl : List (Str × Addr)) (fp : List Addr), PTs (X.blk s H scope (compEnvC scope cl C X.env) fp) ifs tt)
    (hk : ∀ (s : Shared) (H : Hp) (C : Addr) (cl : List (Str × Addr)) (fp : List Addr), PE (X.blk s H scope (compEnvC scope cl C X.env) fp) kx tk)
    (he : ∀ (s : Shared) (H : Hp) (C : Addr) (cl : List (Str × Addr)) (fp : List Addr), PE (X.blk s H scope (compEnvC scope cl C X.env) fp) vx tv) (hs : ∀ x, foldedSetIterable iter X.env x = pure x := by intro _; rfl) :
    PS X (.Assign [.Name y py] (.DictComp kx vx [⟨tg, iter, ifs, 0⟩] scope pos) spos) (tAsg (tDc wi g tt tk tv (own.map (·.2))) (gName i)) := by
  refine ⟨fun pins s σ H D I h => ?_⟩
  rw [exec_Assign_Name_used _ _ _ _ hsw]
  refine wpAny_bind (wpAny_standAt (wpAny_bind ?_))
  show wpAny _ X.A (do let _ ← comprehension (.DictComp kx vx [⟨tg, iter, ifs, 0⟩] scope pos) scope X.env _ newDict false (eval iter X.env) (some (assign (.Name y py) X.env))) _ _ s
  have h : tDc wi g tt tk tv (own.map (·.2)) σ H (fun x H1 => gName i x σ H1 D.nx) := h
  refine wpAny_bind (thn (dc_core (Qf := fun _ s' => SP X pins D .next s') hc hN I hi ok hg ht hk he hs h fun L C s' m H' I' q hn f => ?_) fun _ s' hq => wpAny_pure (wpAny_pure hq))
  show wpAny _ _ (assign (.Name y py) X.env (.ref L)) _ _ _
  refine wpAny_assign_Name (store_ok2 (v := V.ref L) I' hN hy (.inl hyl) rfl (fun s2 I2 ⟨a, sb, ha⟩ => ?_) (.inr hyl))
  obtain ⟨f0, f1, f2, f3, f4, f5⟩ := f
  have haC : C ≠ a := by
    rcases ha with z | z
    · rw [z]; exact f1
    · exact fun e => f4 y a z e.symm
  refine ⟨m, hn.sameBut sb haC, fun h3 sb3 => ?_⟩
  exact ⟨_, H', I2.turned (t' := s2.toks) (fun b o hb e => (sb3.2 b hb).trans e) f0 f1 f3 f4 f5, q⟩
end
end Gx
namespace Gx
open PySem PySem.Spec PyProof.Rows L2
/-- a statement that is never reached -/
def sNo : TS := fun _ _ _ => False
theorem ps_no {X : Cx} {st : Stmt} : PS X st sNo := ⟨fun _ _ _ _ _ _ h => h.elim⟩
theorem no {D : Ends} {σ : L2.St} {H : Hp} (h : False) : sNo D σ H := h
end Gx
namespace Gx
open PySem PySem.Spec PyProof.Rows L2
theorem gsub {to ti : TE} {t : TSet} {v : V} {σ : L2.St} {H : Hp} {Q : L2.St → Hp → Prop} (h : to σ H fun o H1 => ti σ H1 fun i H2 => t o i v H2 fun H3 => Q σ H3) : gSub to ti t v σ H Q := h
theorem neB {a b : Bool} {H : Hp} {Q : VK} (h : Q (.bl (a != b)) H) : rNe (.bl a) (.bl b) H Q := ⟨rfl, by
  have e : (!decide (V.bl a = V.bl b)) = (a != b) := by cases a <;> cases b <;> rfl
  rw [e]
  exact h⟩
theorem setL {p : Addr} {xs : List V} {k : Int} {j : Nat} {v : V} {H : Hp} {Q : Hp → Prop} (hp : H p = some (.lst xs)) (e : k = j) (l : j < xs.length) (h : Q (upd H p (.lst (xs.set j v)))) : rSetL (.ref p) (.int k) v H Q := ⟨p, xs, k, j, rfl, rfl, hp, by
  subst e
  unfold ixN
  simp [l], h⟩
end Gx
/-! ### a dict of the module: texts to numbers -/
namespace Gx
open PySem PySem.Spec PyProof.Rows L2
def ivs : List DictEntry → Option (List (Str × Int))
  | [] => some []
  | e :: r => match e.key, e.val, ivs r with
    | .str x _, .int i _, some l => some ((x, i) :: l)
    | _, _, _ => none
def intsW (K : PySem.W.Frag) (a : Addr) : Option (List (Str × Int)) := match K.lookup a with
  | some ⟨_, _, .dict es _, _⟩ => ivs es.toList
  | _ => none
/-- at a: a dict of the module with these texts and numbers -/
def KIv (K : PySem.W.Frag) (w : World) (a : Addr) (kvs : List (Str × Int)) : Prop := ∃ es n, K.lookup a = some ⟨.type "dict", none, .dict es n, #[]⟩ ∧ PySem.W.KeysLit w.params es.toList ∧ (a == sysModules) = false ∧ ivs es.toList = some kvs
theorem kiv_of {K : PySem.W.Frag} {w : World} {a : Addr} {ks : List Str} {kvs : List (Str × Int)} (h : He.dicW K a = some (He.keysIn w.params ks)) (g : intsW K a = some kvs) : KIv K w a kvs := by
  obtain ⟨es, n, q⟩ := He.dicW_ok h
  unfold intsW at g
  rw [q.at_] at g
  exact ⟨es, n, q.at_, q.lit, q.low, g⟩
def getS (kvs : List (Str × Int)) (x : Str) : Option Int := match kvs with
  | [] => none
  | (y, i) :: r => if (y == x) = true then some i else getS r x
theorem find_iv {x : Str} : ∀ {l : List DictEntry} {kvs : List (Str × Int)}, ivs l = some kvs → (l.any (·.refKey) = false) ∧ ((l.find? (·.key.isStr x) = none ∧ getS kvs x = none) ∨ ∃ e i t, l.find? (·.key.isStr x) = some e ∧ e.val = .int i t ∧ getS kvs x = some i)
  | [], kvs, h => by
    cases h
    exact ⟨rfl, .inl ⟨rfl, rfl⟩⟩
  | e :: r, kvs, h => by
    unfold ivs at h
    split at h
    · rename_i y t i u l hk hv hl
      cases h
      obtain ⟨h1, h2⟩ := find_iv (x := x) hl
      refine ⟨?_, ?_⟩
      · rw [List.any_cons, h1, Bool.or_false]
        unfold DictEntry.refKey
        rw [hk]
      · rw [List.find?_cons, hk, getS]
        show (match (y == x) with | true => some e | false => r.find? (·.key.isStr x)) = none ∧ _ ∨ _
        by_cases c : (y == x) = true
        · rw [c, if_pos rfl]
          exact .inr ⟨e, i, u, by show (match (y == x) with | true => some e | false => r.find? (·.key.isStr x)) = some e; rw [c], hv, rfl⟩
        · rw [Bool.not_eq_true] at c
          rw [c]
          rcases h2 with ⟨a, b⟩ | ⟨e', i', t', a, b, d⟩
          · exact .inl ⟨a, by rw [if_neg (by decide)]; exact b⟩
          · exact .inr ⟨e', i', t', by show (match (y == x) with | true => some e | false => r.find? (·.key.isStr x)) = some e'; rw [c]; exact a, b, by rw [if_neg (by decide)]; exact d⟩
    · cases h
theorem ns_iv {K : PySem.W.Frag} {a : Addr} {es : Array DictEntry} {n : Nat} {kvs : List (Str × Int)} (x : Str) (h : K.lookup a = some ⟨.type "dict", none, .dict es n, #[]⟩) (g : ivs es.toList = some kvs) :
    ∃ u, PySem.W.nsIn K a x = some u ∧ ((u = none ∧ getS kvs x = none) ∨ ∃ i t, u = some (.int i t) ∧ getS kvs x = some i) := by
  obtain ⟨h1, h2⟩ := find_iv (x := x) g
  unfold PySem.W.nsIn
  rw [h]
  rcases h2 with ⟨a, b⟩ | ⟨e, i, t, a, b, d⟩
  · exact ⟨none, by dsimp only; rw [a]; dsimp only; rw [h1]; rfl, .inl ⟨rfl, b⟩⟩
  · exact ⟨some e.val, by dsimp only; rw [a], .inr ⟨i, t, by rw [b], d⟩⟩
/-- D.get(y, z), D a dict of the module -/
def tKGet (kvs : List (Str × Int)) (ty tx : TE) : TE := fun σ H Q => ty σ H fun y H1 => tx σ H1 fun z H2 => ∃ x, y = .str x ∧ Q (((getS kvs x).map V.int).getD z) H2
theorem pe_kget {X : Cx} {a : Addr} {x : Str} {kvs : List (Str × Int)} {e f : Expr} {ty tx : TE} {p apos cpos : Pos} (kf : KIv X.K X.w a kvs) (gC : X.mg x = some (.ref a)) (hg : Gl X x) (he : PE X e ty) (hf : PE X f tx) (m : M2 X (.Name x p) "get" apos e f cpos) (hdb : (x == ("__debug__" : Str)) = false := by decide) :
    PE X (.Call (.Attribute (.Name x p) "get" apos) [e, f] [] cpos) (tKGet kvs ty tx) := by
  refine ⟨fun pins s σ H Q I h => ?_⟩
  obtain ⟨es, n, hl, hk, low, hv⟩ := kf
  refine wpAny_Call_method m.base m.few m.line PySem.F.plainAttrs_dict PySem.F.slot_dict_get PySem.F.type_dict_get (ld_glob I hg gC ?_ hdb)
  have hm := PySem.W.mapOf_K (prog := X.prog) (w := X.w) I.kIn hl hk
  refine ⟨hm.typeIs, fun b q => ?_, ?_⟩
  · cases q
    exact ⟨_, I.kIn _ _ hl, rfl⟩
  rw [m.trees]
  refine Calls.callWith_builtin rfl (Calls.evalArgs_plain (Calls.spliced_cons (thn (he.run pins s σ H _ I h) fun iv s2 ⟨y, H2, I2, ry, q2⟩ =>
    Calls.spliced_cons (thn (hf.run pins s2 σ H2 _ I2 q2) fun fv s3 ⟨z, H3, I3, rz, x, ey, q3⟩ => Calls.spliced_nil ?_))))
  subst ey
  obtain ⟨t, rfl⟩ := (show ∃ t, iv = Value.str x t from ry)
  have hm3 := PySem.W.mapOf_K (prog := X.prog) (w := X.w) I3.kIn hl hk
  refine call_meetsIn PySem.F.slot_dict_get hm3.typeIs PySem.F.entry_dict_get (PySem.F.args_dict_get_3 _ _ _) (meets_dict_get_default (strKind X.prog X.w) a (strKind_is X.prog X.w x t) low fv) ⟨_, hm3, ?_⟩
  obtain ⟨u, hu, h3⟩ := ns_iv x hl hv
  rw [PySem.W.find_K hl hu]
  rcases h3 with ⟨rfl, e1⟩ | ⟨i, t', rfl, e1⟩
  · rw [e1] at q3
    exact ⟨_, H3, I3.tok _, rz, q3⟩
  · rw [e1] at q3
    exact ⟨.int i, H3, I3.tok _, ⟨_, rfl⟩, q3⟩
theorem kget {kvs : List (Str × Int)} {ty tx : TE} {σ : L2.St} {H : Hp} {Q : VK} (h : ty σ H fun y H1 => tx σ H1 fun z H2 => ∃ x, y = .str x ∧ Q (((getS kvs x).map V.int).getD z) H2) : tKGet kvs ty tx σ H Q := h
end Gx
/-! ### for over a text -/
namespace Gx
open PySem PySem.Spec PyProof.Rows L2
section
variable {σ : L2.St} {H : Hp} {D : Ends} {te : TE}
theorem istr {R : It → Hp → Prop} (h : te σ H fun v H1 => ∃ x, v = .str x ∧ R (Its x) H1) : iStr te σ H R := h
theorem for_str {l : List Nat} {g : TG} {tb : TS} (Pv : Nat → L2.St → Hp → Prop) (h0 : Pv 0 σ H)
    (hs : ∀ i c σ H, l[i]? = some c → Pv i σ H → g (.str (mkS [c])) σ H fun σ2 H2 => tb { D with nx := Pv (i + 1), ct := Pv (i + 1), bk := D.nx } σ2 H2) (hd : ∀ σ H, Pv l.length σ H → D.nx σ H) :
    ∃ W : Nat → Nat → L2.St → Hp → Prop, (∃ m, W 0 m σ H) ∧ ∀ i m σ H, W i m σ H →
      ((Its (mkS l)).stop i H ∧ D.nx σ H) ∨ ((Its (mkS l)).go i H ∧ ∃ N : L2.St → Hp → Prop, (∀ σ' H', N σ' H' → ∃ m', m' < m ∧ W (i + 1) m' σ' H') ∧ ∀ x H', (Its (mkS l)).yld i H x H' → g x σ H' fun σ2 H2 => tb { D with nx := N, ct := N, bk := D.nx } σ2 H2) := by
  have hz : (mkS l).cps.size = l.length := by simp [mkS]
  refine ⟨fun i m σ H => m = l.length - i ∧ i ≤ l.length ∧ Pv i σ H, ⟨l.length, by simp, Nat.zero_le _, h0⟩, ?_⟩
  rintro i m σ H ⟨rfl, hi, p⟩
  by_cases hlt : i < l.length
  · refine .inr ⟨by show i < (mkS l).cps.size; omega, Pv (i + 1), fun σ' H' p' => ⟨l.length - (i + 1), by omega, rfl, hlt, p'⟩, ?_⟩
    rintro x H' ⟨rfl, c, hc, rfl⟩
    exact hs i c σ _ (by simpa [mkS] using hc) p
  · have e : i = l.length := by omega
    subst e
    exact .inl ⟨by show (mkS l).cps.size ≤ l.length; omega, hd σ H p⟩
end
end Gx
/-! ### enumerate(a tuple) -/
namespace Gx
open PySem PySem.Spec PyProof.Rows L2
open AutoSeq1 (wpAny_loadPart')
theorem meets_enum_tup (l : Addr) (items : Array Value) (n : Nat) (dct : Option Addr) (sl : Array (Option Value)) :
    Meets (Builtin.«enumerate.__new__» ⟨[.type "enumerate", .ref l], []⟩) (fun _ R s => s.heap.get? l = some { cls := .type "tuple", dict := dct, data := .seq items n, slots := sl } ∧
      R (.ok (.ret (.ref (s.heap.push { cls := .type "tuple_iterator", data := .fields #[.ref l, .int 0 0] }).objs.size)))
        { s with heap := (s.heap.push { cls := .type "tuple_iterator", data := .fields #[.ref l, .int 0 0] }).push { cls := .type "enumerate", data := .fields #[.none, .bool false, .ref s.heap.objs.size, rawInt 0, .none, .none] } }) :=
  .of_wp fun prog w A R s h => by
    obtain ⟨hp, g, d, tk, os⟩ := s; obtain ⟨hl, h⟩ := h
    have hsub := sub_enumerate
    have hL : Heap.IsTuple (Shared.heap ⟨hp, g, d, tk, os⟩) l items := ⟨_, hl, rfl, n, rfl⟩
    wp_walk using wpAny_loadPart' hl
    refine wpAny_stack_any fun st => wpAny_pure ?_
    split
    · rename_i c _ _ _ _ _
      cases (c == Value.type "enumerate")
      · wp_walk using wpAny_loadPart' hl, wpAny_pyIter_tuple hL
        exact ⟨_, rfl, h⟩
      · wp_walk using wpAny_loadPart' hl, wpAny_pyIter_tuple hL
        exact ⟨_, rfl, h⟩
    · wp_walk using wpAny_loadPart' hl, wpAny_pyIter_tuple hL
      exact ⟨_, rfl, h⟩
section
variable {prog : Program} {w : World} {A : Around} {E : Value → Shared → Prop} {s : Shared}
theorem call_enum_tup {l : Addr} {items : Array Value} {Q : Value → Shared → Prop} (hL : s.heap.IsTuple l items)
    (h : ∀ h', IsEnum h' (s.heap.objs.size + 1) s.heap.objs.size 0 .none → h'.IsTupleIter s.heap.objs.size l 0 → h'.objs.size = s.heap.objs.size + 2 →
      (∀ b o, s.heap.get? b = some o → h'.get? b = some o) → Q (.ref (s.heap.objs.size + 1)) { s with heap := h' }) :
    wpAny (model prog w) A (PySem.call (.type "enumerate") [.ref l]) Q E s := by
  obtain ⟨⟨c, dct, dt, sl⟩, hl, hc, n, hd⟩ := hL
  replace hc : c = .type "tuple" := hc
  replace hd : dt = .seq items n := hd
  subst hc hd
  refine callType_new F.called_enumerate (by decide) (F.typeCall_enumerate_1 _) (F.newCall_enumerate_1 _) (fun obj => F.args_object_init_2 obj _) F.entry_enumerate_new
    (meets_enum_tup l items n dct sl) ⟨hl, ?_⟩
  have hz : (s.heap.push { cls := .type "tuple_iterator", data := .fields #[.ref l, .int 0 0] }).objs.size = s.heap.objs.size + 1 := Heap.size_push ..
  show _ ∧ _
  rw [hz]
  have he : IsEnum ((s.heap.push { cls := .type "tuple_iterator", data := .fields #[.ref l, .int 0 0] }).push
      { cls := .type "enumerate", data := .fields #[.none, .bool false, .ref s.heap.objs.size, rawInt 0, .none, .none] }) (s.heap.objs.size + 1) s.heap.objs.size 0 .none := by
    have := Heap.get?_push_size (s.heap.push { cls := .type "tuple_iterator", data := .fields #[.ref l, .int 0 0] })
      (o := { cls := .type "enumerate", data := .fields #[.none, .bool false, .ref s.heap.objs.size, rawInt 0, .none, .none] }) rfl
    rw [hz] at this; exact this
  refine ⟨⟨_, he, rfl⟩, h _ he ⟨_, Heap.get?_push_of_some _ (Heap.get?_push_size _ rfl), rfl, rfl⟩ (by rw [Heap.size_push, hz]) fun b o x => Heap.get?_push_of_some _ (Heap.get?_push_of_some _ x)⟩
theorem draws_tup (hh : A.handled = none) (it t : Addr) (hne : t ≠ it) (items : Array Value) :
    Draws prog w A it [it, t] items.size (fun i v => items[i]? = some v) (fun i h => h.IsTupleIter it t i ∧ h.IsTuple t items) where
  live := fun i h st => let ⟨o, ho, _⟩ := st.1; ⟨o, ho⟩
  frame := fun i h h' st k => ⟨st.1.at fun o q => k it (by simp) o q, let ⟨o, ho, r⟩ := st.2; ⟨o, k t (by simp) o ho, r⟩⟩
  item := fun i s Q E hi st hQ => by
    refine PySem.wpAny_nextOf_tuple_item st.1 st.2 (x := items[i]) (by simp [hi]) fun h' n1 b1 => ?_
    exact hQ _ h' s.toks (by simp [hi]) ⟨n1, let ⟨o, ho, r⟩ := st.2; ⟨o, b1.extBut _ _ hne ho, r⟩⟩ b1
  done := fun s Q E st hE => PySem.wpAny_nextOf_tuple_end hh st.1 st.2 (by simp) fun h' e k o => hE h' e k o
end
/-- the tuple at a, each item in a new pair -/
def IteT (K : PySem.W.Frag) (a : Addr) : It :=
  ⟨fun i H => ∃ (xs : List V) (x : V), SqT K H a xs ∧ xs[i]? = some x, fun i H v H' => ∃ T x, v = .ref T ∧ H T = none ∧ H' = upd H T (.tup [.int (i : Nat), x]) ∧ ∀ xs, SqT K H a xs → xs[i]? = some x, fun i H => ∃ xs : List V, SqT K H a xs ∧ xs.length ≤ i⟩
theorem turn_enumT {P : Program} {w : World} {K : PySem.W.Frag} {elts : List Expr} {kk : Nat} {tpos : Pos} (a e it : Addr) :
    Turn P w K (.Tuple elts kk tpos) (IteT K a) [e, it] e (fun i h => (∃ old, IsEnum h e it ((i : Nat) : Int) old) ∧ h.IsTupleIter it a i ∧ e ≠ it) where
  mem := by simp
  obj := fun i h st b hb => by
    obtain ⟨⟨old, he⟩, ⟨o, ho, hc, hd⟩, _⟩ := st
    have e' : b = e ∨ b = it := by simpa using hb
    rcases e' with z | z
    · rw [z]; exact ⟨_, he, fun v q => nomatch q⟩
    · rw [z]; exact ⟨o, ho, fun v q => by rw [hd] at q; cases q⟩
  keep := fun i h h' st k => let ⟨⟨old, he⟩, hi, hne⟩ := st; ⟨⟨old, k e (by simp) _ he⟩, hi.at fun o q => k it (by simp) o q, hne⟩
  item := by
    intro X hP hw hK hc i pins s σ H E I hf st hg
    subst hP hw hK
    obtain ⟨⟨old, he⟩, hit, hne⟩ := st
    obtain ⟨xs, x, hq, hx⟩ := hg
    obtain ⟨its, rv, p, hz⟩ := I.tuple hq
    replace p : s.heap.IsTuple a its.toArray := p
    obtain ⟨u, hu, ru⟩ := rv.get hx
    have hel : e < s.heap.objs.size := Heap.lt_size he
    have hil : it < s.heap.objs.size := by obtain ⟨_, q, _⟩ := hit; exact Heap.lt_size q
    have hae : a ≠ e := fun z => by
      obtain ⟨o, ho, hcl, _⟩ := id p
      rw [z, he] at ho
      cases ho
      exact absurd (show Value.type "enumerate" = .type "tuple" from hcl) (by decide)
    have hai : a ≠ it := fun z => by
      obtain ⟨o, ho, hcl, _⟩ := id p
      obtain ⟨o', ho', hcl', _⟩ := id hit
      rw [z, ho'] at ho
      cases ho
      rw [hcl'] at hcl
      exact absurd hcl (by decide)
    have hlt : i < its.toArray.size := by
      have := (List.getElem?_eq_some_iff.mp hu).1
      simpa using this
    refine wpAny_pyNext_enum_itemD (draws_tup (A := X.A.in1) (I.ok.hd hc) it a hai its.toArray) he ⟨hit, p⟩ hlt hne (by simp; exact ⟨hne, Ne.symm hae⟩) fun u' h' tk hPx ho hst' hT hsz hk => ?_
    have eu : u' = u := by
      have h1 : its.toArray[i]? = some u' := hPx
      have h2 : its.toArray[i]? = some u := by simpa using hu
      rw [h1] at h2
      exact Option.some.inj h2
    subst eu
    refine ⟨_, rfl, wpAny_letOwnedTupleGo_enum (s := { s with heap := h', toks := tk + 1 }) ho fun h'' he' sb => ?_⟩
    have hT2 : h''.get? s.heap.objs.size = some { cls := .type "tuple", data := .seq #[.int i tk, u'] } := (sb.2 _ (Nat.ne_of_gt hel)).trans hT
    have new : ObjOk X.prog X.w (upd H s.heap.objs.size (.tup [.int (i : Nat), x])) h'' s.heap.objs.size (.tup [.int (i : Nat), x]) :=
      ⟨by show 2 ≤ sizeLine; decide, [.int i tk, u'], .cons ⟨_, rfl⟩ (.cons ru .nil), ⟨_, hT2, rfl, _, rfl⟩⟩
    have I1 : Inv X pins σ (upd H s.heap.objs.size (.tup [.int (i : Nat), x])) { s with heap := h'', toks := tk + 1 } :=
      I.turnedNew (ch := [e, it]) (fun b ob hb q => (sb.2 b (fun z => hb (by simp [z]))).trans (hk b ob (fun z => hb (by simp [z])) (fun z => hb (by simp [z])) q)) hf (Nat.le_refl _) new
    refine ⟨.ref s.heap.objs.size, _, I1, rfl, ⟨_, x, rfl, I.hok.fresh (Nat.le_refl _), rfl, fun ys hy => by rw [I.tuple_inj hy hq]; exact hx⟩, ⟨⟨u', ?_⟩, hst'.1.at fun o q => (sb.2 it (Ne.symm hne)).trans q, hne⟩, fun b hb => ?_⟩
    · have e1 : ((i + 1 : Nat) : Int) = (i : Int) + 1 := by omega
      rw [e1]; exact he'
    · have hb' : b < s.heap.objs.size := by
        have e' : b = e ∨ b = it := by simpa using hb
        rcases e' with z | z
        · rw [z]; exact hel
        · rw [z]; exact hil
      rw [upd_ne (Nat.ne_of_lt hb')]
      exact (hf b hb).1
  done := by
    intro X hP hw hK hc i pins s σ H E I hf st hg
    subst hP hw hK
    obtain ⟨⟨old, he⟩, hit, hne⟩ := st
    obtain ⟨xs, hq, hx⟩ := hg
    obtain ⟨its, rv, p, hz⟩ := I.tuple hq
    replace p : s.heap.IsTuple a its.toArray := p
    obtain ⟨f0, f1, f2, f3, f4, f5⟩ := hf it (by simp)
    have hl := rv.length
    have hai : a ≠ it := fun z => by
      obtain ⟨o, ho, hcl, _⟩ := id p
      obtain ⟨o', ho', hcl', _⟩ := id hit
      rw [z, ho'] at ho
      cases ho
      rw [hcl'] at hcl
      exact absurd hcl (by decide)
    have hT : s.TypeIs (.ref e) "enumerate" := ⟨_, he, rfl⟩
    unfold pyNext
    refine wpAny_bind (wpAny_attempt (wpAny_callSpecial?_slot (name := Str.ofString "__next__") hT F.slot_enumerate_next
      (wpAny_call_entry F.slot_enumerate_next hT F.entry_enumerate_next ?_ (F.args_enumerate_next_1 _))))
    show wpAny _ _ (field (.ref e) 2 >>= _) _ _ _
    refine wpAny_bind (wpAny_field he rfl (x := .ref it) rfl ?_)
    refine wpAny_bind (PySem.wpAny_nextOf_tuple_end (A := X.A.in1) (I.ok.hd hc) hit p (by simp; omega) fun h' y he' hx' => ?_)
    obtain ⟨o, ho, hcl⟩ := hx'
    refine wpAny_bind (wpAny_isInstance (T := "StopIteration") (b := true) ⟨o, ho, hcl⟩ isSubtype_stop ?_)
    exact wpAny_pure ⟨rfl, I.turned (t' := s.toks) (fun b o hb q => he' b o hb q) f0 f1 f3 f4 f5⟩
  self := fun A i s Q E st h => let ⟨⟨_, he⟩, _⟩ := st; wpAny_pyIter_enum he h
def iEnumT (K : PySem.W.Frag) (ta : TA) : TI := fun σ H R => ta σ H fun vs H1 => ∃ a xs, vs = [.ref a] ∧ SqT K H1 a xs ∧ R (IteT K a) H1
theorem pi_enumT {X : Cx} {e : Expr} {ta : TA} {p pos tpos : Pos} {elts : List Expr} {kk : Nat} (hg : Gl X "enumerate") (hm : X.mg "enumerate" = none) (ha : PA X [e] ta) (hs : starEach [e] X.env = [(false, eval e X.env)] := by rfl) :
    PI X (.Tuple elts kk tpos) (.Call (.Name "enumerate" p) [e] [] pos) (iEnumT X.K ta) := by
  refine ⟨fun pins s σ H R I h => ?_⟩
  refine Call_ (ld_blt I hg hm boot_enumerate (PyProof.Rows.callWith_type1 (thn (ha.run pos pins s σ H _ I h) fun us s1 ⟨vs, H1, I1, r1, q1⟩ => ?_) hs rfl))
  obtain ⟨a, xs, ex, hq, q⟩ := q1
  subst ex
  cases r1 with
  | cons r rr =>
    cases rr
    cases r
    obtain ⟨its, rv, p', hz⟩ := I1.tuple hq
    refine call_enum_tup (items := its.toArray) p' fun h' he hit hsz hk => wpAny_pyIter_enum he ?_
    have I2 : Inv X pins σ H1 { s1 with heap := h' } := I1.kept (t' := s1.toks) hk
    refine ⟨s1.heap.objs.size + 1, [s1.heap.objs.size + 1, s1.heap.objs.size], _, _, H1, rfl, I2, turn_enumT a (s1.heap.objs.size + 1) s1.heap.objs.size, ⟨⟨.none, he⟩, hit, Nat.succ_ne_self _⟩, fun b hb => ?_, q⟩
    have e' : b = s1.heap.objs.size + 1 ∨ b = s1.heap.objs.size := by simpa using hb
    have hle : s1.heap.objs.size ≤ b := by
      rcases e' with z | z
      · rw [z]; exact Nat.le_add_right _ _
      · rw [z]; exact Nat.le_refl _
    exact I1.fpOk hle (I1.hok.fresh hle)
theorem walk_enumT {K : PySem.W.Frag} {a : Addr} {xs : List V} : Walk (IteT K a) xs.length (fun H => SqT K H a xs) (YPair (fun i => some (.int (i : Nat))) (fun i => xs[i]?)) := by
  refine ⟨fun i _ hi q => ⟨xs, xs[i], q, by simp [hi]⟩, fun _ q => ⟨xs, q, Nat.le_refl _⟩, fun i H v H' _ q y => ?_⟩
  obtain ⟨T, x, h1, h2, h3, h4⟩ := y
  exact ⟨T, .int (i : Nat), x, h1, h2, h3, rfl, h4 xs q⟩
theorem ienumT {K : PySem.W.Frag} {ta : TA} {σ : L2.St} {H : Hp} {R : It → Hp → Prop} (h : ta σ H fun vs H1 => ∃ a xs, vs = [.ref a] ∧ SqT K H1 a xs ∧ R (IteT K a) H1) : iEnumT K ta σ H R := h
theorem iitems {td : TE} {σ : L2.St} {H : Hp} {R : It → Hp → Prop} (h : td σ H fun x H1 => ∃ d o kvs, x = .ref d ∧ H1 d = some (.frz o (.dK kvs)) ∧ R (Iti d o kvs) H1) : iItems td σ H R := h
theorem ikeys {td : TE} {σ : L2.St} {H : Hp} {R : It → Hp → Prop} (h : td σ H fun x H1 => ∃ d o, x = .ref d ∧ ((∃ kvs, H1 d = some (.frz o (.dK kvs)) ∧ R (Itk d o kvs) H1) ∨ ∃ kvs, H1 d = some (.frz o (.dT kvs)) ∧ R (Itkt d o kvs) H1)) : iKeys td σ H R := h
/-! ### list(d.values()) -/
def tListVals (te : TE) : TE := fun σ H Q => te σ H fun x H1 => ∃ (d : Addr) (kvs : List (Key × V)), x = .ref d ∧ H1 d = some (.dK kvs) ∧ ∀ p, H1 p = none → Q (.ref p) (upd H1 p (.lst (kvs.map (·.2))))
theorem pe_listVals {X : Cx} {e : Expr} {te : TE} {p apos cpos pos : Pos} (hc : X.calm = true) (he : PE X e te) (hg : Gl X "list") (hm : X.mg "list" = none) (hv : bootBuiltins "list" = some (.type "list")) (hbase : attributeBase e "values" X.env (eval e X.env) = eval e X.env := by rfl) (hline : (apos.endLine == cpos.line) = true := by rfl)
    (hs : starEach [.Call (.Attribute e "values" apos) [] [] cpos] X.env = (false, eval (.Call (.Attribute e "values" apos) [] [] cpos) X.env) :: starEach [] X.env := by rfl) :
    PE X (.Call (.Name "list" p) [.Call (.Attribute e "values" apos) [] [] cpos] [] pos) (tListVals te) := by
  refine ⟨fun pins s σ H Q I hq => ?_⟩
  refine wpAny_Call_Name_kw (ld_blt I hg hm hv ?_)
  refine PyProof.Rows.callWith_type1 ?_ hs rfl
  rw [hs]
  show wpAny _ _ (spliced ((false, eval (.Call (.Attribute e "values" apos) [] [] cpos) X.env) :: backTo pos (starEach [] X.env))) _ _ s
  refine Calls.spliced_cons ?_
  refine wpAny_Call_method (T := "dict") (id := "dict.values") hbase rfl hline F.plainAttrs_dict F.slot_dict_values F.type_dict_values (thn (he.run pins s σ H _ I hq) fun u s1 ⟨x, H1, I1, rx, d, kvs, ex, hd, q⟩ => ?_)
  subst ex
  obtain rfl : u = Value.ref d := rx
  obtain ⟨hz, hs0, vs, kv, hdo⟩ := I1.hok d _ hd
  obtain ⟨ep, hat⟩ := hdo.dictAt
  have lk : kvs.length = vs.length := Paired.length kv
  have I2 : Inv X pins σ H1 { s1 with heap := s1.heap.push { cls := .type "dict_values", data := .fields #[.ref d] } } := I1.kept (t' := s1.toks) fun b ob q => Heap.get?_push_of_some _ q
  refine ⟨hdo.typeIs, hdo.mapOf.noDict, ?_⟩
  show wpAny _ _ (callWith cpos (.builtin "dict.values") [.ref d] [] []) _ X.xe s1
  refine method_meetsIn F.slot_dict_values F.entry_dict_values rfl (PySem.evalArgs_none ⟨rfl, hdo.typeIs, F.args_dict_values_1 _, _, meets_dict_values (mixKind X.prog X.w) d hs0, ⟨vs, hdo⟩, ?_⟩)
  refine Calls.spliced_nil ?_
  refine PySem.W.kdl_call (PySem.W.kdl_values (knd := mixKind X.prog X.w) (kvs := vs) (ep := ep)) (I1.ok.hd hc) ⟨⟨_, Heap.get?_push_size _ rfl, rfl, rfl⟩, hat.push _⟩ (by rw [← lk]; exact hz) fun h' tk acc' c' hkeep hS hacc => ?_
  have hlv : (kvs.map (·.2)).length ≤ sizeLine := by rw [List.length_map]; exact hz
  refine ⟨.ref _, upd H1 _ (.lst (kvs.map (·.2))), I2.laid (t' := tk) hkeep (Nat.le_refl _) (show ObjOk X.prog X.w _ _ _ (.lst (kvs.map (·.2))) from ⟨hlv, acc'.toList, c', ?_, ?_⟩), rfl, q _ (I2.hok.fresh (Nat.le_refl _))⟩
  · have el : acc'.toList.length = acc'.size := by simp
    refine vals_of_at (by rw [List.length_map, el, hacc.1, lk]) fun j x w h1 h2 => ?_
    obtain ⟨k, hky⟩ := hacc.2 j w (by rw [← Array.getElem?_toList]; exact h2)
    rw [List.getElem?_map] at h1
    cases hkj : kvs[j]? with
    | none => rw [hkj] at h1; cases h1
    | some pk =>
      rw [hkj] at h1
      cases h1
      obtain ⟨qv, g1, g2, g3⟩ := LiI.paired_get kv hkj
      rw [hky] at g1
      cases g1
      exact g3
  · rw [Array.toArray_toList]; exact hS
end Gx
/-! ### f(e, .., k = v, ..) inside a try; len(set(ints)) -/
namespace Gx
open PySem PySem.Spec PyProof.Rows L2
section
variable {X : Cx} {CX : CXT} {k n : Nat} {f : Addr} {fd : FuncData} {ps ks : List Str} {sp : Sp} {E : L2.St → XK} {x : Str} {p pos : Pos} {e : Expr} {es : List Expr} {kws : List Keyword} {t tk : TA} {g : List Value → List Value → List Value} {gV : List V → List V → List V}
def tCallNS (n m : Nat) (sp : Sp) (gV : List V → List V → List V) (E : L2.St → XK) (t tk : TA) : TE := fun σ H Q => t σ H fun vs H1 => tk σ H1 fun zs H2 => vs.length = n ∧ zs.length = m ∧ sp (gV vs zs) H2 Q (E σ)
theorem pe_callNS (F : FnOk X.prog X.w X.K X.mg X.base CX k f fd ps sp) (hr : Room k X.A) (hg : Gl X x) (hm : X.mg x = some (.ref f)) (hk : PySem.W.keepIn X.K (.ref f) = true) (hb : KBn X.K fd ps n ks g gV) (hx : ∀ σ, PassesAt CX X σ (E σ))
    (ha : PA X (e :: es) t) (hkw : PK X kws tk) (hall : (backToKw pos (keywordEach kws X.env)).all (·.1.isSome) = true := by rfl) (hks : (backToKw pos (keywordEach kws X.env)).filterMap (·.1) = ks := by rfl)
    (hdb : (x == ("__debug__" : Str)) = false := by decide) (he : starEach (e :: es) X.env = (false, eval e X.env) :: starEach es X.env := by rfl)
    (hpl : ((backTo pos (starEach (e :: es) X.env)).any (·.1) || (backToKw pos (keywordEach kws X.env)).any (·.1.isNone)) = false := by rfl) :
    PE X (.Call (.Name x p) (e :: es) kws pos) (tCallNS n ks.length sp gV E t tk) := by
  refine ⟨fun pins s σ H Q I h => ?_⟩
  refine wpAny_Call_Name_kw (ld_glob I hg hm ?_ hdb)
  refine PySem.W.callWith_KW (h₀ := X.base) I.ok.mod.kin hk hall (thn (ha.run pos pins s σ H _ I h) fun us s1 ⟨vs, H1, I1, r, q⟩ => ?_) hpl he
  refine thn (hkw.run pos pins s1 σ H1 _ I1 q) fun ws s2 ⟨zs, H2, I2, rz, l1, l2, q2⟩ => ⟨I2.kIn, ?_⟩
  rw [hks]
  have r2 := hb.rel r rz
  refine wpAny_call (codeAny_mono (F.run X.A X.stack s2 H2 ⟨us, ks.zip ws⟩ (g us ws) (gV vs zs) Q (E σ) hr I2.env0 (hb.to s2 us ws I2.kIn (r.length.symm.trans l1) (rz.length.symm.trans l2)) r2 q2) fun r s' hq => ?_)
  cases r with
  | error e => exact hx σ pins H2 s2 e s' I2 hq
  | ok fl =>
    cases fl with
    | ret u => exact I2.after hq
    | next => exact False.elim hq
    | brk => exact False.elim hq
    | cont => exact False.elim hq
theorem callN {n m : Nat} {E : XK} {σ : L2.St} {H : Hp} {Q : VK} (h : t σ H fun vs H1 => tk σ H1 fun zs H2 => vs.length = n ∧ zs.length = m ∧ sp (gV vs zs) H2 Q E) : tCallN n m sp gV E t tk σ H Q := h
theorem callNS {n m : Nat} {σ : L2.St} {H : Hp} {Q : VK} (h : t σ H fun vs H1 => tk σ H1 fun zs H2 => vs.length = n ∧ zs.length = m ∧ sp (gV vs zs) H2 Q (E σ)) : tCallNS n m sp gV E t tk σ H Q := h
theorem kOfI (K : PySem.W.Frag) : ∀ {ns : List Int} {us : List Value}, Vals (ns.map V.int) us → PyProof.Rows.IntsAre us ns
  | [], _, .nil => .nil
  | n :: ns, _, .cons r t => by
    obtain ⟨k, rfl⟩ := r
    exact .cons n k (kOfI K t)
/-- len(set(xs)), xs a list of ints -/
def tLenSet (K : PySem.W.Frag) (ta : TE) : TE := fun σ H Q => ta σ H fun x H1 => ∃ (l : Addr) (ns : List Int), x = .ref l ∧ SqL K H1 l (ns.map V.int) ∧ ns.length ≤ 4000 ∧ Q (.int (ns.eraseDups.length : Nat)) H1
theorem pe_lenSet {X : Cx} {a : Expr} {ta : TE} {p p2 q pos : Pos} (hg : Gl X "len") (hm : X.mg "len" = none) (hg2 : Gl X "set") (hm2 : X.mg "set" = none) (ha : PE X a ta) (hc : X.calm = true := by rfl)
    (na : starEach [a] X.env = (false, eval a X.env) :: starEach [] X.env := by rfl) : PE X (.Call (.Name "len" p) [.Call (.Name "set" p2) [a] [] q] [] pos) (tLenSet X.K ta) := by
  refine ⟨fun pins s σ H Q I h => ?_⟩
  refine Call_ (ld_blt I hg hm boot_len ?_)
  refine PyProof.Rows.callWith_builtin1 (PyProof.Rows.args_cons ?_ rfl) rfl rfl
  refine Call_ (ld_blt I hg2 hm2 boot_set ?_)
  refine PyProof.Rows.callWith_type1 (PyProof.Rows.args_cons (thn (ha.run pins s σ H _ I h) fun v s1 ⟨x, H1, I1, r1, q1⟩ => PyProof.Rows.args_nil ?_) na) na rfl
  obtain ⟨l, ns, rfl, hq, hl, q1⟩ := q1
  cases r1
  obtain ⟨its, r, pl, hz⟩ := I1.list hq
  have hlen : its.toArray.size = ns.length := by rw [List.size_toArray, ← r.length, List.length_map]
  refine call_set_list (I1.ok.hd hc) pl.isList (by simpa using kOfI X.K r) (by rw [hlen]; unfold scanBound; omega) fun h' tk hS hk => ?_
  refine PyProof.Rows.args_nil ?_
  rw [hlen, PySem.W.oss_met ns, PySem.W.oss_dups] at hS
  obtain ⟨o, es, ep, t, ho, hex, hd, _, _, _, hf, hn⟩ := hS
  have I2 : Inv X pins σ H1 { s1 with heap := h', toks := tk } := I1.kept fun b o e => hk b o (Heap.lt_size e) e
  have hle : ns.eraseDups.length ≤ ns.length := by rw [← PySem.W.oss_dups]; exact PySem.W.oss_len ns
  exact call_len_set ho hex hd hf (by rw [hn] <;> omega) ⟨.int ns.eraseDups.length, H1, I2.tok _, ⟨_, by rw [hn]⟩, q1⟩
theorem lenSet {K : PySem.W.Frag} {σ : L2.St} {H : Hp} {Q : VK} {ta : TE} (h : ta σ H fun x H1 => ∃ (l : Addr) (ns : List Int), x = .ref l ∧ SqL K H1 l (ns.map V.int) ∧ ns.length ≤ 4000 ∧ Q (.int (ns.eraseDups.length : Nat)) H1) : tLenSet K ta σ H Q := h
theorem listVals {σ : L2.St} {H : Hp} {Q : VK} {te : TE} (h : te σ H fun x H1 => ∃ (d : Addr) (kvs : List (Key × V)), x = .ref d ∧ H1 d = some (.dK kvs) ∧ ∀ p, H1 p = none → Q (.ref p) (upd H1 p (.lst (kvs.map (·.2))))) : tListVals te σ H Q := h
end
/-- a dict made over a walk -/
theorem dc_it {J : It} {n : Nat} {G : Hp → Prop} {Y : Nat → Hp → V → Hp → Prop} (w : Walk J n G Y) {g : TG} {tt : TT} {tk tv : TE} {vs : List Nat} {σ : L2.St} {H1 : Hp} {D : Addr} {Qd : Hp → Prop} (Pv : Nat → Hp → Prop) (h0 : Pv 0 (upd H1 D (.dK []))) (hG : ∀ i H, i ≤ n → Pv i H → G H)
    (hs : ∀ i x H H', i < n → Pv i H → Y i H x H' → g x (wipe σ vs) H' fun σ2 H2 => wipe σ2 vs = wipe σ vs ∧ tt σ2 H2 fun b H3 =>
      if b = true then tk σ2 H3 fun y H4 => tv σ2 H4 fun z H5 => ∃ kvs k, y = kV k ∧ H5 D = some (.dK kvs) ∧ kvs.length < sizeLine ∧ Pv (i + 1) (upd H5 D (.dK (putK kvs k z))) else Pv (i + 1) H3) (hd : ∀ H, Pv n H → Qd H) :
    ∃ W : Nat → Nat → Hp → Prop, (∃ m, W 0 m (upd H1 D (.dK []))) ∧ ∀ i m H, W i m H →
      (J.stop i H ∧ Qd H) ∨ (J.go i H ∧ ∃ Nx : Hp → Prop, (∀ H', Nx H' → ∃ m', m' < m ∧ W (i + 1) m' H') ∧ ∀ x H', J.yld i H x H' → g x (wipe σ vs) H' fun σ2 H2 => wipe σ2 vs = wipe σ vs ∧ tt σ2 H2 fun b H3 =>
        if b = true then tk σ2 H3 fun y H4 => tv σ2 H4 fun z H5 => ∃ kvs k, y = kV k ∧ H5 D = some (.dK kvs) ∧ kvs.length < sizeLine ∧ Nx (upd H5 D (.dK (putK kvs k z))) else Nx H3) := by
  refine ⟨fun i m H => m = n - i ∧ i ≤ n ∧ Pv i H, ⟨n, by simp, Nat.zero_le _, h0⟩, ?_⟩
  rintro i m H ⟨rfl, hi, p⟩
  have q := hG i H hi p
  by_cases hlt : i < n
  · refine .inr ⟨w.goes i H hlt q, Pv (i + 1), fun H' p' => ⟨n - (i + 1), by omega, rfl, hlt, p'⟩, fun x H' y => hs i x H H' hlt p (w.yields i H x H' hlt q y)⟩
  · have e : i = n := by omega
    subst e
    exact .inl ⟨w.stops H q, hd H p⟩
theorem and2T {p1 p2 : Prop} [Decidable p1] [Decidable p2] {tb : TT} {σ : L2.St} {H : Hp} {Q : Bool → Hp → Prop} (hb : p1 → ∀ Q' : Bool → Hp → Prop, Q' (decide p2) H → tb σ H Q') (h : Q (decide (p1 ∧ p2)) H) : if decide p1 = true then tb σ H Q else Q false H := by
  by_cases h1 : p1
  · rw [decide_eq_true h1]
    refine hb h1 _ ?_
    rw [show decide (p1 ∧ p2) = decide p2 from decide_eq_decide.mpr ⟨fun h => h.2, fun h => ⟨h1, h⟩⟩] at h
    exact h
  · rw [decide_eq_false h1]
    rw [show decide (p1 ∧ p2) = false from decide_eq_false fun z => h1 z.1] at h
    exact h
theorem iteV {p : Prop} [Decidable p] {ta tb : TE} {v : V} {σ : L2.St} {H : Hp} {Q : VK} (h1 : p → ∀ Q' : VK, Q' v H → ta σ H Q') (h2 : ¬ p → ∀ Q' : VK, Q' v H → tb σ H Q') (h : Q v H) : if decide p = true then ta σ H Q else tb σ H Q := by
  by_cases hp : p
  · rw [decide_eq_true hp]; exact h1 hp _ h
  · rw [decide_eq_false hp]; exact h2 hp _ h
theorem _root_.L2.DGet.f {H : Hp} {a : Addr} {o : Obj} {kvs : List (Key × V)} {k : Key} (e : H a = some (.frz o (.dK kvs))) : DGet H a (kV k) (valV kvs k) := .inl ⟨kvs, k, .inr ⟨o, e⟩, rfl, rfl⟩
theorem catA {K : PySem.W.Frag} {H : Hp} {Q : VK} {a b : Addr} {xs ys : List V} (ha : SqT K H a xs) (hb : SqT K H b ys) (l : xs.length + ys.length ≤ 16777216) (q : ∀ p H', Same H H' → SqT K H' p (xs ++ ys) → Q (.ref p) H') : rCatA K (.ref a) (.ref b) H Q :=
  ⟨a, b, xs, ys, rfl, rfl, ha, hb, by rw [sizeLine_eq]; exact l, fun e => q b H (Same.refl H) (by rw [e]; exact hb), fun _ e => q a H (Same.refl H) (by rw [e, List.append_nil]; exact ha), fun _ _ p np => q p _ (ext1 np).same (SqT.of upd_same)⟩
theorem slA {K : PySem.W.Frag} {H : Hp} {Q : VK} {a : Addr} {xs : List V} {lo hi : Option Int} (ha : SqT K H a xs) (q : ∀ p H', Same H H' → SqT K H' p (cutV xs lo hi) → Q (.ref p) H') : rSlA K (.ref a) lo hi H Q :=
  ⟨a, xs, rfl, ha, fun e => q a H (Same.refl H) (by unfold cutV; rw [e.1, e.2, List.drop_zero, Nat.sub_zero, List.take_length]; exact ha), fun _ p np => q p _ (ext1 np).same (SqT.of upd_same)⟩
theorem gtup {K : PySem.W.Frag} {n : Nat} {t : TGs} {v : V} {σ : L2.St} {H : Hp} {Q : L2.St → Hp → Prop} (h : ∃ a xs, v = .ref a ∧ SqT K H a xs ∧ xs.length = n ∧ t xs σ H Q) : gTup K n t v σ H Q := h
theorem gcons {t : TG} {u : TGs} {x : V} {xs : List V} {σ : L2.St} {H : Hp} {Q : L2.St → Hp → Prop} (h : t x σ H fun σ' H' => u xs σ' H' Q) : gCons t u (x :: xs) σ H Q := ⟨x, xs, rfl, h⟩
theorem gnil {σ : L2.St} {H : Hp} {Q : L2.St → Hp → Prop} (h : Q σ H) : gNil [] σ H Q := ⟨rfl, h⟩
theorem edups_snoc (l : List Int) (a : Int) : (l ++ [a]).eraseDups = if a ∈ l.eraseDups then l.eraseDups else l.eraseDups ++ [a] := by
  rw [← PySem.W.oss_dups, ← PySem.W.oss_dups, PySem.W.oss_next]
theorem edups_mem {l : List Int} {a : Int} : a ∈ l.eraseDups ↔ a ∈ l := by rw [← PySem.W.oss_dups]; exact PySem.W.oss_has
theorem edups_le (l : List Int) : l.eraseDups.length ≤ l.length := by rw [← PySem.W.oss_dups]; exact PySem.W.oss_len l
theorem edups_rev : ∀ l : List Int, (l.reverse).eraseDups.length = l.length ↔ l.Nodup
  | [] => ⟨fun _ => List.nodup_nil, fun _ => rfl⟩
  | a :: l => by
    have ih := edups_rev l
    have h1 := edups_le l.reverse
    rw [List.length_reverse] at h1
    rw [List.reverse_cons, edups_snoc, List.nodup_cons, List.length_cons]
    have e : a ∈ l.reverse.eraseDups ↔ a ∈ l := by rw [edups_mem, List.mem_reverse]
    by_cases h : a ∈ l
    · rw [if_pos (e.mpr h)]
      exact ⟨fun z => by omega, fun z => absurd h z.1⟩
    · rw [if_neg (fun z => h (e.mp z)), List.length_append, List.length_singleton]
      exact ⟨fun z => ⟨h, ih.mp (by omega)⟩, fun z => by rw [ih.mpr z.2]⟩
theorem edups_nodup {l : List Int} : l.eraseDups.length = l.length ↔ l.Nodup := by
  have h := edups_rev l.reverse
  rw [List.reverse_reverse, List.length_reverse] at h
  refine h.trans ?_
  unfold List.Nodup
  rw [List.pairwise_reverse]
  exact ⟨fun z => z.imp fun w => w.symm, fun z => z.imp fun w => w.symm⟩
end Gx
/-! ### a text as a list of its signs; sorted(text); a text walked in a comprehension; x in D, D[x] of a module dict -/
namespace Gx
open PySem PySem.Spec PyProof.Rows L2
/-- the signs of a text, a text each -/
def signV (l : List Nat) : List V := l.map fun c => V.str (mkS [c])
theorem sign_rel {l : List Nat} {acc : Array Value} (h : ItemsOf (SignAt (mkS l)) acc (mkS l).cps.size) : Vals (signV l) acc.toList := by
  have hz : (mkS l).cps.size = l.length := by simp [mkS]
  have el : acc.toList.length = acc.size := by simp
  refine vals_of_at (by unfold signV; rw [List.length_map, el, h.1, hz]) fun j x w h1 h2 => ?_
  obtain ⟨c, u, hc, rfl⟩ := h.2 j w (by rw [← Array.getElem?_toList]; exact h2)
  have hc' : l[j]? = some c := by simpa [mkS] using hc
  unfold signV at h1
  rw [List.getElem?_map, hc'] at h1
  cases h1
  exact ⟨u, rfl⟩
def rListStr : List V → Hp → VK → Prop := fun xs H Q => ∃ l : List Nat, xs = [.str (mkS l)] ∧ l.length ≤ 16777216 ∧ ∀ p, H p = none → Q (.ref p) (upd H p (.lst (signV l)))
theorem cr_listStr {X : Cx} (hc : X.calm = true) : CallR X (.type "list") rListStr := by
  intro pins s σ H xs us Q I r h
  obtain ⟨l, rfl, hl, q⟩ := h
  obtain ⟨u, rfl, t, rfl⟩ := vals1 r
  have hz : (mkS l).cps.size = l.length := by simp [mkS]
  refine call_list_str (I.ok.hd hc) _ t (fun h' tk acc' c' hk hS hacc => ?_) (by rw [hz, sizeLine_eq]; exact hl)
  refine ⟨.ref s.heap.objs.size, upd H s.heap.objs.size (.lst (signV l)), I.laid hk (Nat.le_refl _) (show ObjOk X.prog X.w _ _ _ (.lst (signV l)) from ⟨?_, acc'.toList, c', sign_rel hacc, ?_⟩), rfl, q _ (I.hok.fresh (Nat.le_refl _))⟩
  · unfold signV
    rw [List.length_map, sizeLine_eq]
    exact hl
  · rw [Array.toArray_toList]; exact hS
/-- one sign -/
def cv : Value → Nat
  | .str x _ => x.cps.getD 0 0
  | _ => 0
def ltCv (v u : Value) : Bool := decide (cv v < cv u)
theorem swo_cv : SrtO.Swo ltCv := by
  refine ⟨fun x y h => ?_, fun x y z h1 h2 => ?_⟩
  · have a := of_decide_eq_true (p := cv x < cv y) h
    exact decide_eq_false (p := cv y < cv x) (by omega)
  · have a := of_decide_eq_false (p := cv y < cv x) h1
    have b := of_decide_eq_false (p := cv z < cv y) h2
    exact decide_eq_false (p := cv z < cv x) (by omega)
theorem strs_of_signs : ∀ {l : List Nat} {vs : List Value}, Vals (signV l) vs → StrsAre vs (l.map fun c => mkS [c]) := by
  intro l vs h
  have e : signV l = (l.map fun c => mkS [c]).map V.str := by unfold signV; rw [List.map_map]; rfl
  rw [e] at h
  exact h.strs
theorem signs_mem {l : List Nat} {vs : List Value} (h : Vals (signV l) vs) : (∀ v ∈ vs, ∃ c t, v = Value.str (mkS [c]) t) ∧ vs.map cv = l := by
  induction l generalizing vs with
  | nil =>
    cases h
    exact ⟨fun v hv => (List.not_mem_nil hv).elim, rfl⟩
  | cons c l ih =>
    unfold signV at h
    rw [List.map_cons] at h
    cases h with
    | cons a t =>
      obtain ⟨tk, rfl⟩ := a
      obtain ⟨h1, h2⟩ := ih t
      refine ⟨fun v hv => ?_, by rw [List.map_cons, h2]; rfl⟩
      rcases List.mem_cons.mp hv with e | hv
      · exact ⟨c, tk, e⟩
      · exact h1 v hv
theorem signs_of {vs : List Value} (h : ∀ v ∈ vs, ∃ c t, v = Value.str (mkS [c]) t) : Vals (signV (vs.map cv)) vs := by
  induction vs with
  | nil => exact .nil
  | cons v vs ih =>
    obtain ⟨c, t, rfl⟩ := h v List.mem_cons_self
    exact .cons ⟨t, rfl⟩ (ih fun u hu => h u (List.mem_cons_of_mem _ hu))
theorem signs_sortable {prog : Program} {w : World} {A : Around} {s : Shared} {a : Addr} {l : List Nat} {vs : List Value} (hI : Vals (signV l) vs) (h2 : 2 ≤ vs.length) : SrtO.SortableO prog w A s a vs ltCv := by
  intro h' _
  refine ⟨oneType', fun Q E hq => ?_, fun p q hm hm' => ?_⟩
  · match vs, hI, h2 with
    | v1 :: v2 :: rest, hI, _ =>
      rw [keyKind_strs (strs_of_signs hI)]
      exact wpAny_pure hq
    | [], _, h => exact absurd h (by decide)
    | [v], _, h => exact absurd h (by simp)
  · obtain ⟨a, t, e⟩ := (signs_mem hI).1 _ hm
    obtain ⟨b, u, e'⟩ := (signs_mem hI).1 _ hm'
    show wpAny (model prog w) A (keyLt' oneType' p.1 q.1) (fun r s' => s' = { s with heap := h' } ∧ r = ltCv p.1 q.1) (fun _ _ => False) { s with heap := h' }
    rw [e, e', keyLt'_oneType]
    refine oneLt_str ⟨rfl, ?_⟩
    show decide ([a] < [b]) = decide (a < b)
    exact decide_eq_decide.mpr (by simp [List.cons_lt_cons_iff])
theorem iadd_str {prog : Program} {w : World} {A : Around} {s : Shared} {R : Result → Shared → Prop} (hh : A.handled = none) (x : Str) (t : Tok) (S : Addr) (c₀ : Nat) (hS : s.heap.get? S = some { cls := .type "list", data := .seq #[] c₀ })
    (hR : ∀ h' tk acc' c', (∀ b o, b ≠ S → s.heap.get? b = some o → h'.get? b = some o) → h'.get? S = some { cls := .type "list", dict := none, data := .seq acc' c', slots := #[] } →
      ItemsOf (SignAt x) acc' x.cps.size → R (.ok (.ret (.ref S))) { s with heap := h', toks := tk }) (hn : x.cps.size ≤ sizeLine) :
    codeAny (model prog w) A (.builtin "list.__iadd__" ⟨[.ref S, .str x t], []⟩) R s := by
  refine codeAny_builtin F.entry_list_iadd ?_
  rw [Around.under_plainId F.plain_list_iadd _]
  exact wpAny_extend_str (hn := hn) hh x t S (.ref S) c₀ hS hR
theorem collect_strG {prog : Program} {w : World} {A : Around} {E : Value → Shared → Prop} {s : Shared} {Q : List Value → Shared → Prop} (hh : A.handled = none) (x : Str) (t : Tok)
    (hQ : ∀ h' tk acc, (∀ b o, s.heap.get? b = some o → h'.get? b = some o) → s.heap.objs.size < h'.objs.size → ItemsOf (SignAt x) acc x.cps.size → Q acc.toList { s with heap := h', toks := tk }) (hn : x.cps.size ≤ sizeLine) :
    wpAny (model prog w) A (collect (.str x t)) Q E s := by
  unfold collect
  refine wpAny_bind (wpAny_runValue (codeAny_builtin F.entry_proto_collect ?_))
  rw [Around.under_plainId F.plain_proto_collect _]
  show wpAny _ A.in1 (newList [] >>= fun l => again (.builtin "list.__iadd__" ⟨[l, .str x t], []⟩)) _ _ s
  refine wpAny_bind (wpAny_newObj_type ?_)
  have hS : (s.heap.push { cls := .type "list", data := .seq #[] }).get? s.heap.objs.size = some { cls := .type "list", data := .seq #[] } := Heap.get?_push_size _ rfl
  refine wpAny_pure ⟨plainId_quiet F.plain_list_iadd _, iadd_str (s := { s with heap := s.heap.push { cls := .type "list", data := .seq #[] } }) hh x t s.heap.objs.size 0 hS (fun h' tk acc' c' hk hS' hacc => ?_) hn⟩
  show wpAny _ A (load s.heap.objs.size >>= _) _ _ _
  refine wpAny_bind (wpAny_load hS' ?_)
  exact wpAny_pure (hQ h' tk acc' (fun b o e => hk b o (Nat.ne_of_lt (Heap.lt_size e)) (Heap.get?_push_of_some _ e)) (Heap.lt_size hS') hacc)
/-- sorted(a text): the signs, sorted -/
def rSortStr : List V → Hp → VK → Prop := fun xs H Q => ∃ l : List Nat, xs = [.str (mkS l)] ∧ l.length ≤ 16777216 ∧ ∀ (l' : List Nat) p, l'.Perm l → l'.Pairwise (· ≤ ·) → H p = none → Q (.ref p) (upd H p (.lst (signV l')))
theorem cr_sortStr {X : Cx} (hc : X.calm = true) : CallR X (.builtin "sorted") rSortStr := by
  intro pins s σ H xs us Q I r h
  obtain ⟨l, rfl, hl, q⟩ := h
  obtain ⟨u, rfl, t, rfl⟩ := vals1 r
  have hz : (mkS l).cps.size = l.length := by simp [mkS]
  refine Calls.call_function_entry kind_sorted plain_sorted entry_sorted (args_sorted1 _) ?_
  unfold Builtin.«sorted»
  refine wpAny_bind (m := checkCount "sorted" 1 1 _) (wpAny_pure ?_)
  refine wpAny_bind (collect_strG (A := X.A.in1) (I.ok.hd hc) _ t (fun h1 tk acc k1 hp hacc => ?_) (by rw [hz, sizeLine_eq]; exact hl))
  have hv := sign_rel hacc
  generalize acc.toList = vs at hv
  have hvl : vs.length ≤ sizeLine := by
    rw [← hv.length]
    unfold signV
    rw [List.length_map, sizeLine_eq]
    exact hl
  refine wpAny_bind (wpAny_newList ?_ hvl)
  have hoL : (h1.push (seqObj "list" vs.toArray 0)).get? h1.objs.size = some (seqObj "list" vs.toArray 0) := Heap.get?_push_size _ rfl
  refine wpAny_bind (wpAny_holding (wpAny_call_entry slot_list_sort ⟨_, hoL, rfl⟩ entry_list_sort (SrtO.list_sort_ord swo_cv hoL hvl (fun h2 => signs_sortable hv h2) fun out h1' h2 => ⟨_, rfl, ?_⟩) (args_list_sort _)))
  obtain ⟨c, hc'⟩ := sortedHeap_at (vs := vs) (out := out.toArray) hoL
  have hm := signs_mem hv
  have hmo : ∀ v ∈ out, ∃ c t, v = Value.str (mkS [c]) t := fun v hv => hm.1 v (h2.perm.mem_iff.mp hv)
  have pm : (out.map cv).Perm l := by
    have := h2.perm.map cv
    rw [hm.2] at this
    exact this
  have pw : (out.map cv).Pairwise (· ≤ ·) := List.pairwise_map.mpr (h1'.imp fun {x y} h => Nat.not_lt.mp (of_decide_eq_false (p := cv y < cv x) h))
  have hlen : (signV (out.map cv)).length ≤ sizeLine := by
    unfold signV
    rw [List.length_map, pm.length_eq, sizeLine_eq]
    exact hl
  have hk : ∀ b u, s.heap.get? b = some u → (sortedHeap (h1.push (seqObj "list" vs.toArray 0)) h1.objs.size vs out.toArray).get? b = some u := fun b u e => by
    have q := k1 b u e
    have hlt := Heap.lt_size q
    rw [sortedHeap_old (Nat.ne_of_lt hlt) (by rw [size_push']; exact Nat.lt_succ_of_lt hlt)]
    exact Heap.get?_push_of_some _ q
  exact wpAny_pure ⟨_, rfl, .ref h1.objs.size, upd H h1.objs.size (.lst (signV (out.map cv))), I.laid (t' := tk) hk (Nat.le_of_lt hp) ⟨hlen, out, c, signs_of hmo, hc'⟩, rfl, q _ _ pm pw (I.hok.fresh (Nat.le_of_lt hp))⟩
theorem listStr {l : List Nat} {H : Hp} {Q : VK} (hl : l.length ≤ 16777216) (h : ∀ p H1, Ext1 H H1 p (.lst (signV l)) → Q (.ref p) H1) : rListStr [.str (mkS l)] H Q := ⟨l, rfl, hl, fun p np => h p _ (ext1 np)⟩
theorem sortStr {l : List Nat} {H : Hp} {Q : VK} (hl : l.length ≤ 16777216) (h : ∀ l' p H1, l'.Perm l → l'.Pairwise (· ≤ ·) → Ext1 H H1 p (.lst (signV l')) → Q (.ref p) H1) : rSortStr [.str (mkS l)] H Q := ⟨l, rfl, hl, fun l' p pm pw np => h l' p _ pm pw (ext1 np)⟩
/-- a comprehension over a text -/
theorem lc_str {l : List Nat} {g : TG} {tt : TT} {te : TE} {vs : List Nat} {σ : L2.St} {H1 : Hp} {D : Addr} {Qd : Hp → Prop} (Pv : Nat → Hp → Prop) (h0 : Pv 0 (upd H1 D (.lst [])))
    (hs : ∀ i c H, l[i]? = some c → Pv i H → g (.str (mkS [c])) (wipe σ vs) H fun σ2 H2 => wipe σ2 vs = wipe σ vs ∧ tt σ2 H2 fun b H3 =>
      if b = true then te σ2 H3 fun y H4 => ∃ acc, H4 D = some (.lst acc) ∧ acc.length < sizeLine ∧ Pv (i + 1) (upd H4 D (.lst (acc ++ [y]))) else Pv (i + 1) H3) (hd : ∀ H, Pv l.length H → Qd H) :
    ∃ W : Nat → Nat → Hp → Prop, (∃ m, W 0 m (upd H1 D (.lst []))) ∧ ∀ i m H, W i m H →
      ((Its (mkS l)).stop i H ∧ Qd H) ∨ ((Its (mkS l)).go i H ∧ ∃ Nx : Hp → Prop, (∀ H', Nx H' → ∃ m', m' < m ∧ W (i + 1) m' H') ∧ ∀ x H', (Its (mkS l)).yld i H x H' → g x (wipe σ vs) H' fun σ2 H2 => wipe σ2 vs = wipe σ vs ∧ tt σ2 H2 fun b H3 =>
        if b = true then te σ2 H3 fun y H4 => ∃ acc, H4 D = some (.lst acc) ∧ acc.length < sizeLine ∧ Nx (upd H4 D (.lst (acc ++ [y]))) else Nx H3) := by
  have hz : (mkS l).cps.size = l.length := by simp [mkS]
  refine ⟨fun i m H => m = l.length - i ∧ i ≤ l.length ∧ Pv i H, ⟨l.length, by simp, Nat.zero_le _, h0⟩, ?_⟩
  rintro i m H ⟨rfl, hi, p⟩
  by_cases hlt : i < l.length
  · refine .inr ⟨by show i < (mkS l).cps.size; omega, Pv (i + 1), fun H' p' => ⟨l.length - (i + 1), by omega, rfl, hlt, p'⟩, ?_⟩
    rintro x H' ⟨rfl, c, hc, rfl⟩
    exact hs i c _ (by simpa [mkS] using hc) p
  · have e : i = l.length := by omega
    subst e
    exact .inl ⟨by show (mkS l).cps.size ≤ l.length; omega, hd H p⟩
/-- x in D, x not in D, D[x], D a dict of the module -/
def rInK (a : Addr) (kvs : List (Str × Int)) (n : Bool) : R2 := fun x y H Q => ∃ z, x = .str z ∧ y = .ref a ∧ Q (.bl ((getS kvs z).isSome != n)) H
theorem op_inK {X : Cx} {a : Addr} {kvs : List (Str × Int)} (k : KIv X.K X.w a kvs) : OpR X (compareOp .In) (rInK a kvs false) := by
  obtain ⟨es, n, h1, h2, h3, h4⟩ := k
  intro pins s σ H x y v u Q I rx ry h
  obtain ⟨z, rfl, rfl, q⟩ := h
  obtain ⟨r, hr, hc⟩ := ns_iv z h1 h4
  refine op_in_kd ⟨h1, h2, h3⟩ pins s σ H _ _ v u Q I rx ry ⟨z, r, rfl, rfl, hr, ?_⟩
  rcases hc with ⟨rfl, e⟩ | ⟨i, t, rfl, e⟩ <;> (rw [e] at q; exact q)
theorem op_notInK {X : Cx} {a : Addr} {kvs : List (Str × Int)} (k : KIv X.K X.w a kvs) : OpR X (compareOp .NotIn) (rInK a kvs true) := by
  obtain ⟨es, n, h1, h2, h3, h4⟩ := k
  intro pins s σ H x y v u Q I rx ry h
  obtain ⟨z, rfl, rfl, q⟩ := h
  obtain ⟨r, hr, hc⟩ := ns_iv z h1 h4
  refine op_notIn_kd ⟨h1, h2, h3⟩ pins s σ H _ _ v u Q I rx ry ⟨z, r, rfl, rfl, hr, ?_⟩
  rcases hc with ⟨rfl, e⟩ | ⟨i, t, rfl, e⟩ <;> (rw [e] at q; exact q)
theorem inK {a : Addr} {kvs : List (Str × Int)} {n : Bool} {z : Str} {H : Hp} {Q : VK} (q : Q (.bl ((getS kvs z).isSome != n)) H) : rInK a kvs n (.str z) (.ref a) H Q := ⟨z, rfl, rfl, q⟩
def rIxK (a : Addr) (kvs : List (Str × Int)) : R2 := fun x y H Q => ∃ z i, x = .ref a ∧ y = .str z ∧ getS kvs z = some i ∧ Q (.int i) H
theorem ix_K {X : Cx} {a : Addr} {kvs : List (Str × Int)} (k : KIv X.K X.w a kvs) : IxR X (rIxK a kvs) := by
  obtain ⟨es, n, h1, h2, h3, h4⟩ := k
  intro value slice pins s σ H x y v u Q I rx ry h hs
  obtain ⟨z, i, rfl, rfl, e, q⟩ := h
  obtain ⟨r, hr, hc⟩ := ns_iv z h1 h4
  rcases hc with ⟨rfl, e'⟩ | ⟨i', t, rfl, e'⟩
  · rw [e] at e'
    cases e'
  · rw [e] at e'
    cases e'
    exact ix_kdict value slice pins s σ H _ _ v u Q I rx ry ⟨a, z, .int i, rfl, rfl, ⟨es, n, _, h1, h2, hr, ⟨t, rfl⟩⟩, q⟩ hs
theorem ixK {a : Addr} {kvs : List (Str × Int)} {z : Str} {i : Int} {H : Hp} {Q : VK} (e : getS kvs z = some i) (q : Q (.int i) H) : rIxK a kvs (.ref a) (.str z) H Q := ⟨z, i, rfl, rfl, e, q⟩
/-- c in a text, c one sign -/
def rInSg : R2 := fun x y H Q => ∃ (c : Nat) (z : Str), x = .str ⟨#[c]⟩ ∧ y = .str z ∧ Q (.bl (decide (c ∈ z.cps.toList))) H
def rNotInSg : R2 := fun x y H Q => ∃ (c : Nat) (z : Str), x = .str ⟨#[c]⟩ ∧ y = .str z ∧ Q (.bl (!decide (c ∈ z.cps.toList))) H
theorem op_inSg {X : Cx} : OpR X (compareOp .In) rInSg := op_in_sign
theorem op_notInSg {X : Cx} : OpR X (compareOp .NotIn) rNotInSg := op_notIn_sign
theorem inSg {c : Nat} {l : List Nat} {H : Hp} {Q : VK} (q : Q (.bl (decide (c ∈ l))) H) : rInSg (.str (mkS [c])) (.str (mkS l)) H Q := ⟨c, mkS l, rfl, rfl, q⟩
theorem notInSg {c : Nat} {l : List Nat} {H : Hp} {Q : VK} (q : Q (.bl (!decide (c ∈ l))) H) : rNotInSg (.str (mkS [c])) (.str (mkS l)) H Q := ⟨c, mkS l, rfl, rfl, q⟩
end Gx
namespace Gx
open PySem PySem.Spec PyProof.Rows L2
/-- list(xs) inside a comprehension -/
def rListQ (K : PySem.W.Frag) : List V → Hp → VK → Prop := fun xs H Q => ∃ p ys, xs = [.ref p] ∧ (SqL K H p ys ∨ SqT K H p ys) ∧ ∀ l, H l = none → Q (.ref l) (upd H l (.lst ys))
theorem cr_listQ {X : Cx} : CallR X (.type "list") (rListQ X.K) := call_list_of
end Gx
/-! ### an own exception with one field, made by its own __init__ -/
namespace Gx
open PySem PySem.Spec PySem.Calls PyProof.Rows
section
variable {prog : Program} {w : World} {A : Around} {E : Value → Shared → Prop} {s : Shared} {K : PySem.W.Frag} {x D : Addr} {ox : Obj} {od : Option Obj}
open PySem.W in
/-- what a class says of __class__, whatever dict the instance has -/
theorem find_cls {a g : Value} {name : Str} (hc : (clsIn K D).isSome = true) (ha : findIn K (.ref D) name = some (some a)) (hg : specialIn K a "__get__" = some (some g)) (ht : takesIn K a = some true) : findObj K D od name = some (.bind g a) := by
  obtain ⟨cd, e⟩ := Option.isSome_iff_exists.mp hc
  unfold findObj
  rw [e, Option.bind_some, ha, Option.bind_some]
  simp [hg, ht]
open PySem.W in
theorem class_of_exc {Q : Option Value → Shared → Prop} (c : L2.ExcC K D) (X : K.In s.heap) (I : InstAt s.heap x ox D od) (h : Q (some (.ref D)) { s with toks := s.toks + 1 }) : wpAny (model prog w) A (getAttr? (.ref x) "__class__") Q E s := by
  obtain ⟨hg, hk, hsb, hd, ha, hn, ht, hm⟩ := c
  have f : findObj K D od "__class__" = some (.bind (.builtin "getset_descriptor.__get__") (.builtin "object.__class__")) := find_cls (by obtain ⟨_, e, _⟩ := any_some hd; rw [e]; rfl) ha hn ht
  obtain ⟨hp, gs, dr, tk, os⟩ := s
  have l0 := I.type (M := model prog w)
  have l1 := looks_findIn (M := model prog w) X hg
  have l2 := looks_findIn (M := model prog w) X hk
  have l3 := looks_find (M := model prog w) X I f
  have lb : Looks (model prog w) hp (isInstance (.ref x) (.type "BaseException")) true := l0.andThen (looks_subIn X hsb)
  have ne : (Value.builtin "BaseException.__getattribute__" == Value.builtin "object.__getattribute__") = false := by decide +kernel
  unfold getAttr? getAttrBy? getAttrBy
  refine wpAny_bind (wpAny_mkText (wpAny_bind (wpAny_attempt (wpAny_holding (wpAny_bind (l0.at (wpAny_bind (l1.at ?_))))))))
  show wpAny _ _ (if (onTheHeap (Value.ref D) && Value.builtin "BaseException.__getattribute__" == Value.builtin "object.__getattribute__") = true then _ else _) _ _ _
  rw [show (onTheHeap (Value.ref D) && Value.builtin "BaseException.__getattribute__" == Value.builtin "object.__getattribute__") = false by rw [ne]; rfl, if_neg Bool.false_ne_true]
  unfold getAttrByItsOwn hookBefore
  refine wpAny_bind ?_
  rw [if_pos (show onTheHeap (Value.ref D) = true from rfl)]
  refine l2.at (wpAny_bind (wpAny_attempt (wpAny_holding ?_)))
  unfold callGetattribute
  rw [show (false && onTheHeap (Value.builtin "BaseException.__getattribute__")) = false from rfl, if_neg Bool.false_ne_true]
  unfold boundAndCalled
  rw [PySem.F.excAttr_ValueError.ga.bind (.ref x)]
  refine wpAny_bind (wpAny_pure ?_)
  show wpAny _ _ (PySem.call (.builtin "BaseException.__getattribute__") [.ref x, .str "__class__" tk]) _ _ _
  refine wpAny_call (codeAny_call_builtin PySem.F.excAttr_ValueError.ga.plain PySem.F.entry_bexc_ga ?_)
  refine @check_slot (model prog w) _ _ ⟨hp, gs, dr, tk + 1, os⟩ "BaseException.__getattribute__" "BaseException" "__getattribute__" (.ref x) [.str "__class__" tk] [] _ (by decide +kernel) (by decide +kernel) lb (PySem.F.args_bexc_ga (.ref x) (.str "__class__" tk)) ?_
  unfold Builtin.«object.__getattribute__»
  refine wpAny_bind (wpAny_of_eq (a := ((Value.ref x : Value), [Value.str "__class__" tk])) (by first | rfl | (simp only [slotArgs]; rfl)) ?_)
  refine wpAny_bind (wpAny_pure (wpAny_bind (l0.at (wpAny_bind (l3.at ?_)))))
  show wpAny _ _ (holding [Value.builtin "object.__class__"] (PySem.call (.builtin "getset_descriptor.__get__") [.builtin "object.__class__", .ref x, .ref D]) >>= PySem.ret) _ _ _
  refine wpAny_bind (wpAny_holding (wpAny_call (class_get (s := ⟨hp, gs, dr, tk + 1, os⟩) (ox := ox) (od := od) X I hm (wpAny_pure ?_))))
  show wpAny _ _ (handedOut (.ref D)) _ _ _
  rw [handedOut_of (v := .ref D) rfl]
  first
    | exact wpAny_pure (wpAny_pure h)
    | exact wpAny_pure h
    | exact wpAny_pure (wpAny_bind (wpAny_pure (wpAny_pure h)))
open PySem.W in
theorem kit_exc (c : L2.ExcC K D) : KitX K (.ref x) (.ref D) (fun h => InstAt h x ox D od) where
  ty := fun _ _ _ I => I.type
  it := fun _ _ X _ => by
    obtain ⟨cd, hc, _⟩ := any_some c.hd
    unfold clsIn at hc
    split at hc
    · rename_i c' d' cd' sl' ho
      intro A' Q' E' s' k q
      unfold isType loadHead
      exact wpAny_bind (wpAny_loadPart (k _ _ (X _ _ ho)) (wpAny_pure q))
    · cases hc
  ne := fun h tp dd its n sl X htp => by
    obtain ⟨cd, hc, _⟩ := any_some c.hd
    refine Bool.eq_false_iff.mpr fun q => ?_
    have e : D = tp := Value.ref.inj (beq_iff_eq.mp q)
    subst e
    unfold clsIn at hc
    split at hc
    · rename_i c' d' cd' sl' ho
      have z := (X _ _ ho).symm.trans htp
      cases z
    · cases hc
  ca := fun X I k => class_of_exc c X I k
end
end Gx
namespace Gx
open PySem PySem.Spec PyProof.Rows L2
section
variable {X : Cx} {a C : Addr} {cls : Value} {d : Option Addr} {oe : Obj} {pn : List (Addr × Obj)} {σ : L2.St} {H : Hp} {Q : VK} {te : TE} {f : Str}
/-- isinstance(e, c), e the exception that the suite holds; it has its own dict -/
def rIsO (K : PySem.W.Frag) (C a : Addr) (cls : Value) (d : Option Addr) : List V → Hp → VK → Prop := fun xs H Q => ∃ (c : V) (cv : Value) (b : Bool) (dd : Addr) (fs : List (Str × V)), cls = .ref C ∧ d = some dd ∧ H dd = some (.xd fs) ∧ xs = [.ref a, c] ∧ (∀ u, RelV c u → u = cv) ∧ PySem.W.kitOne K (.ref C) cv = some b ∧ Q (.bl b) H
theorem isO_at {fs : List (Str × V)} {dd : Addr} {pins : List (Addr × Obj)} {s : Shared} (hz : Zc cls d oe) (hf : ∃ vs, oe.data = .fields vs) (ec : cls = .ref C) (ed : d = some dd) (I : Inv (X.suite a ((a, oe) :: pn)) pins σ H s) (hd : H dd = some (.xd fs)) : ∃ od, PySem.W.InstAt s.heap a oe C (some od) ∧ ∃ mA : Str → Option Value, (∀ name, PySem.W.lookIn name od = some (mA name)) ∧ ∀ f, RelO (fs.lookup f) (mA f) := by
  subst ec ed
  obtain ⟨ha, _⟩ := I.pin (a, oe) (List.mem_append_left _ List.mem_cons_self)
  obtain ⟨vs, hv⟩ := hf
  have hx : ObjOk X.prog X.w H s.heap dd (.xd fs) := I.hok dd _ hd
  obtain ⟨mA, hns, hr⟩ := hx
  obtain ⟨od, ho, hl⟩ := lookIn_ns hns
  exact ⟨od, ⟨ha, hz.1, by unfold PySem.W.notCls; rw [hv] <;> rfl, by rw [hz.2]; exact ho⟩, mA, hl, hr⟩
theorem cr_isO (c : ExcC X.K C) (hz : Zc cls d oe) (hf : ∃ vs, oe.data = .fields vs) : CallR (X.suite a ((a, oe) :: pn)) (.builtin "isinstance") (rIsO X.K C a cls d) := by
  intro pins s σ H xs us Q I r h
  obtain ⟨k, cv, b, dd, fs, ec, ed, hd, rfl, hcv, e, q⟩ := h
  cases r with
  | cons rx rr =>
    cases rr with
    | cons rt rr =>
      cases rr
      cases rx
      have ek := hcv _ rt
      subst ek
      obtain ⟨od, J, _⟩ := isO_at hz hf ec ed I hd
      exact PySem.W.kia_one (kit_exc c) I.kIn J e (fun z => nomatch z) fun tk => ⟨.bl b, H, I.kept (t' := tk) fun _ _ z => z, rfl, q⟩
/-- e.f -/
def tByO (C : Addr) (f : Str) (a : Addr) (cls : Value) (d : Option Addr) (te : TE) : TE := fun σ H Q => te σ H fun x H1 => x = .ref a ∧ cls = .ref C ∧ ∃ (dd : Addr) (fs : List (Str × V)) (v : V), d = some dd ∧ H1 dd = some (.xd fs) ∧ fs.lookup f = some v ∧ Q v H1
theorem pe_byO {e : Expr} {pos : Pos} (c : ExcC X.K C) (hno : PySem.W.findIn X.K (.ref C) f = some none) (hz : Zc cls d oe) (hf : ∃ vs, oe.data = .fields vs) (he : PE (X.suite a ((a, oe) :: pn)) e te)
    (hb : attributeBase e f X.env (eval e X.env) = eval e X.env := by rfl) : PE (X.suite a ((a, oe) :: pn)) (.Attribute e f pos) (tByO C f a cls d te) := by
  refine ⟨fun pins s σ H Q I h => ?_⟩
  refine attr_of hb (thn (he.run pins s σ H _ I h) fun u s1 hh => ?_)
  obtain ⟨x, H1, I1, rx, ex, ec, dd, fs, v, ed, ea, lk, q⟩ := hh
  subst ex
  obtain rfl : u = Value.ref a := rx
  obtain ⟨od, J, mA, hl, hr⟩ := isO_at hz hf ec ed I1 ea
  obtain ⟨u, hu, ru⟩ := RelO.some_of (v := v) (o := mA f) (by rw [← lk]; exact hr f)
  exact HandSPX.exc_get I1.kIn J c.hg c.hk c.hs (PySem.W.findObj_own c.hd hno rfl (by rw [hl, hu])) (handed_of ru) ⟨v, H1, I1.tok _, ru, q⟩
/-- what __init__ of such a class promises: self.f = v -/
def spOi (K : PySem.W.Frag) (C : Addr) (f : Str) : Sp := fun vs H Q _ => ∃ (a : Addr) (v : V), vs = [.ref a, v] ∧ H a = some (exo a C none) ∧ ∀ dx, H dx = none → dx ≠ a → Q .non (upd (upd H dx (exd dx [(f, v)])) a (exo a C (some dx)))
/-- raise C(e) -/
theorem mkO {K : PySem.W.Frag} {ta : TA} {XQ : XK} (h : ta σ H fun vs H1 => ∃ v, vs = [v] ∧ ∀ d, H1 d = none → XQ (.ref C) (some d) (upd H1 d (.xd [(f, v)]))) (mono : ∀ {Q1 Q2 : List V → Hp → Prop}, (∀ vs H, Q1 vs H → Q2 vs H) → ta σ H Q1 → ta σ H Q2) : tMkO C (spOi K C f) [] ta σ H XQ := by
  refine mono (fun vs H1 q => ?_) h
  obtain ⟨v, rfl, q⟩ := q
  refine ⟨by simp, fun a na => ⟨a, v, rfl, upd_same, fun dx nd ne => ⟨rfl, dx, [(f, v)], upd_same, ?_, ?_, ?_⟩⟩⟩
  · rw [upd_ne ne, upd_same]
  · rw [upd_ne ne] at nd
    exact nd
  · rw [upd_ne ne] at nd
    have e : upd (L2.del (upd (upd (upd H1 a (exo a C none)) dx (exd dx [(f, v)])) a (exo a C (some dx))) a) dx (.xd [(f, v)]) = upd H1 dx (.xd [(f, v)]) := by
      funext b
      by_cases hb : b = dx
      · subst hb; rw [upd_same, upd_same]
      · rw [upd_ne hb, upd_ne hb]
        by_cases hba : b = a
        · subst hba; rw [del_same, na]
        · rw [del_ne hba, upd_ne hba, upd_ne hb, upd_ne hba]
    rw [e]
    exact q dx nd
end
end Gx
/-! ### a tuple of texts of the module -/
namespace Gx
open PySem PySem.Spec PyProof.Rows L2
def strsV : List Value → Option (List Str)
  | [] => some []
  | .str x _ :: r => (strsV r).map (x :: ·)
  | _ :: _ => none
def tupW (K : PySem.W.Frag) (a : Addr) : Option (List Str) := match K.lookup a with
  | some ⟨_, _, .seq its _, _⟩ => if its.size ≤ sizeLine then strsV its.toList else none
  | _ => none
/-- at a: a tuple of the module with these texts -/
def KTs (K : PySem.W.Frag) (a : Addr) (xs : List Str) : Prop := ∀ H : Hp, SqT K H a (xs.map V.str)
theorem strsV_vals : ∀ {us : List Value} {xs : List Str}, strsV us = some xs → Vals (xs.map V.str) us
  | [], xs, h => by cases h; exact .nil
  | .str x t :: us, xs, h => by
    obtain ⟨ys, hy, rfl⟩ := Option.map_eq_some_iff.mp (show (strsV us).map (x :: ·) = some xs from h)
    exact .cons ⟨_, rfl⟩ (strsV_vals hy)
theorem kts_of {K : PySem.W.Frag} {a : Addr} {xs : List Str} (h : PySem.W.typeIn K (.ref a) = some (.type "tuple")) (g : tupW K a = some xs) : KTs K a xs := by
  intro H
  obtain ⟨o, ho, hc⟩ := Option.map_eq_some_iff.mp h
  unfold tupW at g
  rw [ho] at g
  obtain ⟨c, d, data, sl⟩ := o
  split at g
  · rename_i e
    cases e
    split at g
    · rename_i hz
      exact .inr ⟨_, _, _, ho, hc, rfl, hz, strsV_vals g⟩
    · cases g
  · cases g
/-- len(D), D a dict of the module -/
theorem iv_pairs {prog : Program} {w : World} : ∀ {l : List DictEntry} {kvs : List (Str × Int)}, ivs l = some kvs → ∃ ws : List (Str × Value), Pairs (strKind prog w) l ws ∧ ws.map (·.1) = kvs.map (·.1)
  | [], kvs, h => by
    cases h
    exact ⟨[], .nil, rfl⟩
  | e :: r, kvs, h => by
    unfold ivs at h
    split at h
    · rename_i y t i u l hk hv hl
      cases h
      obtain ⟨ws, h1, h2⟩ := iv_pairs (prog := prog) (w := w) hl
      refine ⟨(y, e.val) :: ws, .cons ?_ rfl h1, by simp [h2]⟩
      rw [hk]
      exact strKind_is prog w y t
    · cases h
def rLenK (a : Addr) (n : Nat) : List V → Hp → VK → Prop := fun xs H Q => xs = [.ref a] ∧ Q (.int (n : Nat)) H
theorem cr_lenK {X : Cx} {a : Addr} {kvs : List (Str × Int)} (k : KIv X.K X.w a kvs) (nd : (kvs.map (·.1)).Nodup) (sz : kvs.length ≤ 1000) : CallR X (.builtin "len") (rLenK a kvs.length) := by
  obtain ⟨es, n, h1, h2, h3, h4⟩ := k
  intro pins s σ H xs us Q I r h
  obtain ⟨rfl, q⟩ := h
  obtain ⟨u, rfl, ru⟩ := vals1 r
  cases ru
  obtain ⟨ws, p1, p2⟩ := iv_pairs (prog := X.prog) (w := X.w) h4
  have hl : ws.length = kvs.length := by have := congrArg List.length p2; simpa using this
  refine call_len_dict (knd := strKind X.prog X.w) (kvs := ws) h3 ⟨_, es, n, I.kIn _ _ h1, ⟨rfl, rfl, rfl⟩, rfl, fun e he => ?_, p1, by rw [p2]; exact nd⟩ (by omega) ?_
  · obtain ⟨x, t, e1, e2⟩ := h2.all e (Array.mem_toList_iff.mpr he)
    exact ⟨x, by rw [e1]; exact strKind_is X.prog X.w x t, e2⟩
  · exact ⟨.int kvs.length, H, I.tok _, by rw [hl]; exact ⟨_, rfl⟩, q⟩
theorem lenK {a : Addr} {n : Nat} {H : Hp} {Q : VK} (q : Q (.int (n : Nat)) H) : rLenK a n [.ref a] H Q := ⟨rfl, q⟩
end Gx
local macro_rules | `(tactic| walk_at "side") => `(tactic| first | assumption | omega | exact Gx.cmulR (by omega) (by omega) | exact Gx.cmulL (by omega) (by omega) | exact Gx.cdiv (by omega) (by omega) | exact Gx.cpow (by omega) (by omega) (by omega) | exact Gx.line (by omega) | exact Gx.lineL (by omega) | (simp only [List.length_append, List.length_take, List.length_drop, List.length_cons, List.length_nil, List.length_map, List.length_range, List.length_reverse]; omega) | exact Int.emod_nonneg _ (by omega) | exact Int.emod_lt_of_pos _ (by omega))
local macro_rules | `(tactic| walk_at "hp") => `(tactic| first | assumption | exact upd_same | exact SqL.of (by assumption) | exact SqT.of (by assumption) | exact SqL.of upd_same | exact SqT.of upd_same)
local macro_rules | `(tactic| walk_at "g1") => `(tactic| first
  | with_reducible refine Gx.seq ?_ | with_reducible refine Gx.nx ?_ | with_reducible refine Gx.asg ?_ | with_reducible refine Gx.op ?_
  | ((with_reducible refine' Gx.var ?ka ?kb); (case ka => exact rfl))
  | walk_at "con"
  | with_reducible refine Gx.con ?_ | with_reducible refine Gx.i0 ?_
  | ((with_reducible refine' Gx.i1 ?ka ?kb); (case ka => walk_at "side"))
  | with_reducible refine Gx.eqM ?_ | with_reducible refine Gx.neM ?_
  | with_reducible refine Gx.eqI ?_ | with_reducible refine Gx.eqS ?_ | with_reducible refine Gx.neI ?_ | with_reducible refine Gx.neS ?_ | with_reducible refine Gx.eqB ?_ | with_reducible refine Gx.isB ?_
  | ((with_reducible refine Gx.name ?_); try dsimp only [List.set])
  | with_reducible refine Gx.exb ?_ | with_reducible refine Gx.exi ?_ | with_reducible refine Gx.exs ?_ | with_reducible refine Gx.exr ?_
  | with_reducible refine Gx.test ?_ | with_reducible refine Gx.tB ?_ | with_reducible refine Gx.cb ?_ | with_reducible refine Gx.acons ?_ | with_reducible refine Gx.anil ?_
  | with_reducible refine Gx.call ?_ | with_reducible refine Gx.call0 ?_ | with_reducible refine Gx.callS ?_
  | with_reducible refine Gx.ifs ?_ | with_reducible refine Gx.ret ?_ | with_reducible refine Gx.rt ?_ | with_reducible refine Gx.next ?_ | with_reducible refine Gx.drop ?_
  | with_reducible refine Gx.not ?_ | with_reducible refine Gx.and ?_ | with_reducible refine Gx.or ?_ | with_reducible refine Gx.notV ?_ | with_reducible refine Gx.andV ?_ | with_reducible refine Gx.orV ?_ | with_reducible refine Gx.ifE ?_
  | with_reducible refine Gx.itT ?_ | with_reducible refine Gx.itF ?_ | with_reducible refine Gx.itNF ?_ | with_reducible refine Gx.itNT ?_ | with_reducible refine Gx.ittt ?_ | with_reducible refine Gx.itff ?_ | with_reducible refine Gx.itNtt ?_ | with_reducible refine Gx.itNff ?_
  | with_reducible refine Gx.sl ?_ | with_reducible refine Gx.nopart ?_ | with_reducible refine Gx.part ?_
  | ((with_reducible refine' Gx.sA ?ka ?kc ?kb); (case ka => walk_at "side"); (case kc => walk_at "side")) | ((with_reducible refine' Gx.sB ?ka ?kc ?kb); (case ka => walk_at "side"); (case kc => walk_at "side"))
  | ((with_reducible refine' Gx.sC ?ka ?kd ?kc ?kb); (case ka => walk_at "side"); (case kc => walk_at "side"); (case kd => walk_at "side"))
  | ((with_reducible refine' Gx.addM ?ka ?kb); (case ka => walk_at "side")) | ((with_reducible refine' Gx.lenM ?ka ?kb); (case ka => walk_at "side"))
  | ((with_reducible refine' Gx.ixM ?ka ?kd ?kc ?kb); (case ka => walk_at "side"); (case kc => walk_at "side"); (case kd => walk_at "side"))
  | with_reducible refine Gx.isNn ?_ | with_reducible refine Gx.isNi ?_ | with_reducible refine Gx.isNs ?_ | with_reducible refine Gx.isNb ?_ | with_reducible refine Gx.isNr ?_ | with_reducible refine Gx.notNn ?_ | with_reducible refine Gx.notNi ?_ | with_reducible refine Gx.notNs ?_ | with_reducible refine Gx.notNb ?_ | with_reducible refine Gx.notNr ?_
  | with_reducible refine Gx.sfld ?_ | with_reducible refine Gx.meth ?_ | with_reducible refine Gx.make ?_
  | with_reducible refine Gx.isi_ni ?_ | with_reducible refine Gx.isi_nb ?_ | with_reducible refine Gx.isi_ns ?_ | with_reducible refine Gx.isi_nl ?_ | with_reducible refine Gx.isi_nt ?_ | with_reducible refine Gx.isi_ii ?_
  | with_reducible refine Gx.isi_ib ?_ | with_reducible refine Gx.isi_is ?_ | with_reducible refine Gx.isi_il ?_ | with_reducible refine Gx.isi_it ?_ | with_reducible refine Gx.isi_si ?_ | with_reducible refine Gx.isi_sb ?_
  | with_reducible refine Gx.isi_ss ?_ | with_reducible refine Gx.isi_sl ?_ | with_reducible refine Gx.isi_st ?_ | with_reducible refine Gx.isi_bi ?_ | with_reducible refine Gx.isi_bb ?_ | with_reducible refine Gx.isi_bs ?_
  | with_reducible refine Gx.isi_bl ?_ | with_reducible refine Gx.isi_bt ?_ | ((with_reducible refine' Gx.isi_Li ?ka ?kb); (case ka => walk_at "hp")) | ((with_reducible refine' Gx.isi_Lb ?ka ?kb); (case ka => walk_at "hp")) | ((with_reducible refine' Gx.isi_Ls ?ka ?kb); (case ka => walk_at "hp")) | ((with_reducible refine' Gx.isi_Ll ?ka ?kb); (case ka => walk_at "hp"))
  | ((with_reducible refine' Gx.isi_Lt ?ka ?kb); (case ka => walk_at "hp")) | ((with_reducible refine' Gx.isi_Ti ?ka ?kb); (case ka => walk_at "hp")) | ((with_reducible refine' Gx.isi_Tb ?ka ?kb); (case ka => walk_at "hp")) | ((with_reducible refine' Gx.isi_Ts ?ka ?kb); (case ka => walk_at "hp")) | ((with_reducible refine' Gx.isi_Tl ?ka ?kb); (case ka => walk_at "hp")) | ((with_reducible refine' Gx.isi_Tt ?ka ?kb); (case ka => walk_at "hp"))
  | with_reducible refine Gx.strB ?_ | with_reducible refine Gx.prop ?_ | with_reducible refine Gx.callO ?_ | with_reducible refine Gx.methS ?_
  | with_reducible refine Gx.fld ?_ | with_reducible refine Gx.m1 ?_ | with_reducible refine Gx.isS ?_
  | ((with_reducible refine' Gx.slS ?ka ?kb); (case ka => walk_at "side"))
  | with_reducible refine Gx.un ?_ | with_reducible refine Gx.iu ?_
  | ((with_reducible refine' Gx.aug ?ka ?kb); (case ka => exact rfl)) | ((with_reducible refine Gx.ipi ?_); try dsimp only [List.set])
  | ((with_reducible refine' Gx.addS ?ka ?kb); (case ka => walk_at "side")) | ((with_reducible refine' Gx.lenS ?ka ?kb); (case ka => walk_at "side"))
  | ((with_reducible refine' Gx.lenLm ?ka ?kb); (case ka => walk_at "hp")) | ((with_reducible refine' Gx.lenTm ?ka ?kb); (case ka => walk_at "hp"))
  | ((with_reducible refine' Gx.ixLI ?ka ?kc ?kd ?kb); (case ka => walk_at "hp"); (case kc => walk_at "side"); (case kd => walk_at "side"))
  | ((with_reducible refine' Gx.ixT ?ka ?kc ?kb); (case ka => walk_at "hp"); (case kc => rfl))
  | ((with_reducible refine' Gx.lenL ?ka ?kb); (case ka => walk_at "hp")) | ((with_reducible refine' Gx.lenT ?ka ?kb); (case ka => walk_at "hp"))
  | with_reducible refine Gx.abs ?_ | with_reducible refine Gx.min2 ?_ | with_reducible refine Gx.max2 ?_ | with_reducible refine Gx.int1 ?_
  | with_reducible refine Gx.bm ?_ | with_reducible refine Gx.bm0 ?_ | ((with_reducible refine' Gx.tyL ?ka ?kb); (case ka => walk_at "hp"))
  | ((with_reducible refine' Gx.appI ?ka ?kc ?kb); (case ka => walk_at "hp"); (case kc => walk_at "side")) | ((with_reducible refine' Gx.appS ?ka ?kc ?kb); (case ka => walk_at "hp"); (case kc => walk_at "side")) | ((with_reducible refine' Gx.appR ?ka ?kc ?kb); (case ka => walk_at "hp"); (case kc => walk_at "side"))
  | ((with_reducible refine' Gx.app ?ka ?kc ?kb); (case ka => walk_at "hp"); (case kc => walk_at "side"))
  | with_reducible refine Gx.for_ ?_ | with_reducible refine Gx.rng1 ?_ | with_reducible refine Gx.rng2 ?_ | with_reducible refine Gx.ilst ?_ | with_reducible refine Gx.itup ?_ | with_reducible refine Gx.lc ?_ | with_reducible refine Gx.yes ?_
  | with_reducible refine Gx.isq ?_ | with_reducible refine Gx.din ?_ | with_reducible refine Gx.dnotin ?_ | with_reducible refine Gx.dget ?_ | with_reducible refine Gx.dput ?_ | with_reducible refine Gx.dnewK ?_ | with_reducible refine Gx.disp1 ?_ | with_reducible refine Gx.nin ?_ | with_reducible refine Gx.nnotin ?_ | with_reducible refine Gx.nget ?_ | with_reducible refine Gx.nput ?_ | with_reducible refine Gx.nnew ?_ | with_reducible refine Gx.dc ?_ | with_reducible refine Gx.kget ?_ | with_reducible refine Gx.ndisp ?_ | with_reducible refine Gx.izn ?_ | with_reducible refine Gx.inK ?_ | with_reducible refine Gx.inSg ?_ | with_reducible refine Gx.notInSg ?_ | with_reducible refine Gx.gsub ?_ | with_reducible refine Gx.neB ?_ | with_reducible refine Gx.istr ?_ | with_reducible refine Gx.boolB ?_ | with_reducible refine Gx.intB ?_ | with_reducible refine Gx.gtup ?_ | with_reducible refine Gx.gcons ?_ | with_reducible refine Gx.gnil ?_ | with_reducible refine Gx.ienumT ?_ | with_reducible refine Gx.iitems ?_ | with_reducible refine Gx.ikeys ?_ | with_reducible refine Gx.callN ?_ | with_reducible refine Gx.callNS ?_ | with_reducible refine Gx.lenSet ?_ | with_reducible refine Gx.listVals ?_
  | with_reducible refine Gx.tup ?_ | with_reducible refine Gx.lst ?_ | with_reducible refine Gx.retN ?_ | with_reducible refine Gx.brk ?_ | with_reducible refine Gx.cont ?_ | with_reducible refine Gx.bk ?_ | with_reducible refine Gx.ct ?_)
local macro_rules | `(tactic| walk_at "g") => `(tactic| repeat walk_at "g1")
namespace K13
open PySem PySem.Spec PyProof.Rows L2
def topS (i : Nat) : Stmt := PySem.Challenge.pw_textsputback_k13_lens_texts.main.body.getD i (.Pass ⟨0, 0, 0, 0⟩)
theorem bt_abs : bootBuiltins "abs" = some (.builtin "abs") := by decide +kernel
theorem bt_bool : bootBuiltins "bool" = some (.type "bool") := by decide +kernel
theorem bt_int : bootBuiltins "int" = some (.type "int") := by decide +kernel
theorem bt_isinstance : bootBuiltins "isinstance" = some (.builtin "isinstance") := by decide +kernel
theorem bt_len : bootBuiltins "len" = some (.builtin "len") := by decide +kernel
theorem bt_list : bootBuiltins "list" = some (.type "list") := by decide +kernel
theorem bt_max : bootBuiltins "max" = some (.builtin "max") := by decide +kernel
theorem bt_min : bootBuiltins "min" = some (.builtin "min") := by decide +kernel
theorem bt_str : bootBuiltins "str" = some (.type "str") := by decide +kernel
theorem bt_tuple : bootBuiltins "tuple" = some (.type "tuple") := by decide +kernel
theorem ks0 : Str.ofString ")" = Gx.mkS [41] := by decide +kernel
theorem ks1 : Str.ofString "(" = Gx.mkS [40] := by decide +kernel
theorem ks2 : Str.ofString "word" = Gx.mkS [119, 111, 114, 100] := by decide +kernel
theorem ks3 : Str.ofString "one" = Gx.mkS [111, 110, 101] := by decide +kernel
theorem ks4 : Str.ofString "star" = Gx.mkS [115, 116, 97, 114] := by decide +kernel
theorem ks5 : Str.ofString "seq" = Gx.mkS [115, 101, 113] := by decide +kernel
theorem ks6 : Str.ofString ">" = Gx.mkS [62] := by decide +kernel
theorem ks7 : Str.ofString "]" = Gx.mkS [93] := by decide +kernel
theorem ks8 : Str.ofString "*" = Gx.mkS [42] := by decide +kernel
theorem ks9 : Str.ofString "|" = Gx.mkS [124] := by decide +kernel
theorem ks10 : Str.ofString "<" = Gx.mkS [60] := by decide +kernel
theorem ks11 : Str.ofString "[" = Gx.mkS [91] := by decide +kernel
theorem ks12 : Str.ofString "alt" = Gx.mkS [97, 108, 116] := by decide +kernel
theorem ks13 : Str.ofString "" = Gx.mkS [] := by decide +kernel
theorem ks14 : Str.ofString "}" = Gx.mkS [125] := by decide +kernel
theorem ks15 : Str.ofString "{" = Gx.mkS [123] := by decide +kernel
theorem ks16 : Str.ofString "," = Gx.mkS [44] := by decide +kernel
theorem ks17 : Str.ofString "copy" = Gx.mkS [99, 111, 112, 121] := by decide +kernel
theorem ks18 : Str.ofString "swap" = Gx.mkS [115, 119, 97, 112] := by decide +kernel
theorem ks19 : Str.ofString "hide" = Gx.mkS [104, 105, 100, 101] := by decide +kernel
theorem ks20 : Str.ofString "again" = Gx.mkS [97, 103, 97, 105, 110] := by decide +kernel
theorem ks21 : Str.ofString "other" = Gx.mkS [111, 116, 104, 101, 114] := by decide +kernel
theorem ks22 : Str.ofString "none" = Gx.mkS [110, 111, 110, 101] := by decide +kernel
theorem ks23 : Str.ofString "truth" = Gx.mkS [116, 114, 117, 116, 104] := by decide +kernel
theorem ks24 : Str.ofString "number" = Gx.mkS [110, 117, 109, 98, 101, 114] := by decide +kernel
theorem ks25 : Str.ofString "text" = Gx.mkS [116, 101, 120, 116] := by decide +kernel
theorem ks26 : Str.ofString "list" = Gx.mkS [108, 105, 115, 116] := by decide +kernel
theorem ks27 : Str.ofString "tuple" = Gx.mkS [116, 117, 112, 108, 101] := by decide +kernel
theorem ks28 : Str.ofString "b" = Gx.mkS [98] := by decide +kernel
theorem ks29 : Str.ofString ":;abc" = Gx.mkS [58, 59, 97, 98, 99] := by decide +kernel
theorem ks30 : Str.ofString "then" = Gx.mkS [116, 104, 101, 110] := by decide +kernel
theorem ks31 : Str.ofString "or" = Gx.mkS [111, 114] := by decide +kernel
theorem ks32 : Str.ofString "keyed" = Gx.mkS [107, 101, 121, 101, 100] := by decide +kernel
theorem ks33 : Str.ofString "after" = Gx.mkS [97, 102, 116, 101, 114] := by decide +kernel
theorem ks34 : Str.ofString "a" = Gx.mkS [97] := by decide +kernel
theorem ks35 : Str.ofString "ab" = Gx.mkS [97, 98] := by decide +kernel
theorem ks36 : Str.ofString "left of seq" = Gx.mkS [108, 101, 102, 116, 32, 111, 102, 32, 115, 101, 113] := by decide +kernel
theorem ks37 : Str.ofString "right of seq" = Gx.mkS [114, 105, 103, 104, 116, 32, 111, 102, 32, 115, 101, 113] := by decide +kernel
theorem ks38 : Str.ofString "left of alt" = Gx.mkS [108, 101, 102, 116, 32, 111, 102, 32, 97, 108, 116] := by decide +kernel
theorem ks39 : Str.ofString "right of alt" = Gx.mkS [114, 105, 103, 104, 116, 32, 111, 102, 32, 97, 108, 116] := by decide +kernel
theorem ks40 : Str.ofString "copy{" = Gx.mkS [99, 111, 112, 121, 123] := by decide +kernel
theorem ks41 : Str.ofString "hide{" = Gx.mkS [104, 105, 100, 101, 123] := by decide +kernel
theorem ks42 : Str.ofString "swap{" = Gx.mkS [115, 119, 97, 112, 123] := by decide +kernel
theorem ks43 : Str.ofString "then(" = Gx.mkS [116, 104, 101, 110, 40] := by decide +kernel
theorem ks44 : Str.ofString "or(" = Gx.mkS [111, 114, 40] := by decide +kernel
theorem ks45 : Str.ofString "keyed(" = Gx.mkS [107, 101, 121, 101, 100, 40] := by decide +kernel
theorem ks46 : Str.ofString "after(" = Gx.mkS [97, 102, 116, 101, 114, 40] := by decide +kernel
theorem ks47 : Str.ofString "again(" = Gx.mkS [97, 103, 97, 105, 110, 40] := by decide +kernel
theorem ks48 : Str.ofString "<>[]()|*{},:;abcdeghiknoprtwyf " = Gx.mkS [60, 62, 91, 93, 40, 41, 124, 42, 123, 125, 44, 58, 59, 97, 98, 99, 100, 101, 103, 104, 105, 107, 110, 111, 112, 114, 116, 119, 121, 102, 32] := by decide +kernel
theorem ks49 : Str.ofString "[]" = Gx.mkS [91, 93] := by decide +kernel
theorem ks50 : Str.ofString "acfghkostwy{(,<" = Gx.mkS [97, 99, 102, 103, 104, 107, 111, 115, 116, 119, 121, 123, 40, 44, 60] := by decide +kernel
theorem ks51 : Str.ofString "<>}" = Gx.mkS [60, 62, 125] := by decide +kernel
theorem ks52 : Str.ofString "then(copy{<>}," = Gx.mkS [116, 104, 101, 110, 40, 99, 111, 112, 121, 123, 60, 62, 125, 44] := by decide +kernel
theorem ks53 : Str.ofString "<a>,,})" = Gx.mkS [60, 97, 62, 44, 44, 125, 41] := by decide +kernel
theorem ks54 : Str.ofString "hide{<a>,d,}" = Gx.mkS [104, 105, 100, 101, 123, 60, 97, 62, 44, 100, 44, 125] := by decide +kernel
theorem ks55 : Str.ofString "hide{<a>,,,}" = Gx.mkS [104, 105, 100, 101, 123, 60, 97, 62, 44, 44, 44, 125] := by decide +kernel
theorem ks56 : Str.ofString "copy{<a>,}" = Gx.mkS [99, 111, 112, 121, 123, 60, 97, 62, 44, 125] := by decide +kernel
theorem ks57 : Str.ofString "copy{}" = Gx.mkS [99, 111, 112, 121, 123, 125] := by decide +kernel
theorem ks58 : Str.ofString "swap{,abc}" = Gx.mkS [115, 119, 97, 112, 123, 44, 97, 98, 99, 125] := by decide +kernel
theorem ks59 : Str.ofString "hide{<a>,a" = Gx.mkS [104, 105, 100, 101, 123, 60, 97, 62, 44, 97] := by decide +kernel
theorem ks60 : Str.ofString "or(copy{<>})" = Gx.mkS [111, 114, 40, 99, 111, 112, 121, 123, 60, 62, 125, 41] := by decide +kernel
theorem ks61 : Str.ofString "again(copy{<>},copy{<>})" = Gx.mkS [97, 103, 97, 105, 110, 40, 99, 111, 112, 121, 123, 60, 62, 125, 44, 99, 111, 112, 121, 123, 60, 62, 125, 41] := by decide +kernel
theorem ks62 : Str.ofString "swap{[ab]*," = Gx.mkS [115, 119, 97, 112, 123, 91, 97, 98, 93, 42, 44] := by decide +kernel
theorem ks63 : Str.ofString "hide{<a>," = Gx.mkS [104, 105, 100, 101, 123, 60, 97, 62, 44] := by decide +kernel
abbrev s_TooMany_init : Stmt := inClass (topS 2) 0
theorem st_TooMany_init {x0 x1 : V} : L2.start ["self", "limit"] [x0, x1] = [some x0, some x1] := rfl
theorem sc_TooMany_init : FnScope ["self", "limit"] ["self", "limit"] (defScope s_TooMany_init) := ⟨rfl, rfl, rfl, by decide +kernel, rfl, by decide +kernel, by decide +kernel⟩
abbrev s_NotInSource_init : Stmt := inClass (topS 3) 0
theorem st_NotInSource_init {x0 x1 : V} : L2.start ["self", "text"] [x0, x1] = [some x0, some x1] := rfl
theorem sc_NotInSource_init : FnScope ["self", "text"] ["self", "text"] (defScope s_NotInSource_init) := ⟨rfl, rfl, rfl, by decide +kernel, rfl, by decide +kernel, by decide +kernel⟩
abbrev s_NotInView_init : Stmt := inClass (topS 4) 0
theorem st_NotInView_init {x0 x1 : V} : L2.start ["self", "text"] [x0, x1] = [some x0, some x1] := rfl
theorem sc_NotInView_init : FnScope ["self", "text"] ["self", "text"] (defScope s_NotInView_init) := ⟨rfl, rfl, rfl, by decide +kernel, rfl, by decide +kernel, by decide +kernel⟩
abbrev s_BadText_init : Stmt := inClass (topS 5) 0
theorem st_BadText_init {x0 x1 : V} : L2.start ["self", "index"] [x0, x1] = [some x0, some x1] := rfl
theorem sc_BadText_init : FnScope ["self", "index"] ["self", "index"] (defScope s_BadText_init) := ⟨rfl, rfl, rfl, by decide +kernel, rfl, by decide +kernel, by decide +kernel⟩
abbrev s_NotSound_init : Stmt := inClass (topS 6) 0
theorem st_NotSound_init {x0 x1 x2 : V} : L2.start ["self", "place", "fault"] [x0, x1, x2] = [some x0, some x1, some x2] := rfl
theorem sc_NotSound_init : FnScope ["self", "place", "fault"] ["self", "place", "fault"] (defScope s_NotSound_init) := ⟨rfl, rfl, rfl, by decide +kernel, rfl, by decide +kernel, by decide +kernel⟩
abbrev s_children : Stmt := topS 10
theorem st_children {x0 : V} : L2.start ["tree"] [x0] = [some x0] := rfl
theorem sc_children : FnScope ["tree"] ["tree"] (defScope s_children) := ⟨rfl, rfl, rfl, by decide +kernel, rfl, by decide +kernel, by decide +kernel⟩
abbrev s_enclosed : Stmt := topS 12
theorem st_enclosed {x0 x1 : V} : L2.start ["pattern", "kinds", "text"] [x0, x1] = [some x0, some x1, none] := rfl
theorem sc_enclosed : FnScope ["pattern", "kinds", "text"] ["pattern", "kinds"] (defScope s_enclosed) := ⟨rfl, rfl, rfl, by decide +kernel, rfl, by decide +kernel, by decide +kernel⟩
abbrev s_write_pattern : Stmt := topS 13
theorem st_write_pattern {x0 : V} : L2.start ["pattern", "kind"] [x0] = [some x0, none] := rfl
theorem sc_write_pattern : FnScope ["pattern", "kind"] ["pattern"] (defScope s_write_pattern) := ⟨rfl, rfl, rfl, by decide +kernel, rfl, by decide +kernel, by decide +kernel⟩
abbrev s_behind : Stmt := topS 14
theorem st_behind {x0 x1 x2 : V} : L2.start ["text", "at", "char"] [x0, x1, x2] = [some x0, some x1, some x2] := rfl
theorem sc_behind : FnScope ["text", "at", "char"] ["text", "at", "char"] (defScope s_behind) := ⟨rfl, rfl, rfl, by decide +kernel, rfl, by decide +kernel, by decide +kernel⟩
abbrev s_signs_end : Stmt := topS 15
theorem st_signs_end {x0 x1 : V} : L2.start ["text", "at"] [x0, x1] = [some x0, some x1] := rfl
theorem sc_signs_end : FnScope ["text", "at"] ["text", "at"] (defScope s_signs_end) := ⟨rfl, rfl, rfl, by decide +kernel, rfl, by decide +kernel, by decide +kernel⟩
abbrev s_ascending_end : Stmt := topS 16
theorem st_ascending_end {x0 x1 : V} : L2.start ["text", "at", "last"] [x0, x1] = [some x0, some x1, none] := rfl
theorem sc_ascending_end : FnScope ["text", "at", "last"] ["text", "at"] (defScope s_ascending_end) := ⟨rfl, rfl, rfl, by decide +kernel, rfl, by decide +kernel, by decide +kernel⟩
abbrev s_grouped : Stmt := topS 17
theorem st_grouped {x0 x1 : V} : L2.start ["kind", "parts", "pattern", "part"] [x0, x1] = [some x0, some x1, none, none] := rfl
theorem sc_grouped : FnScope ["kind", "parts", "pattern", "part"] ["kind", "parts"] (defScope s_grouped) := ⟨rfl, rfl, rfl, by decide +kernel, rfl, by decide +kernel, by decide +kernel⟩
abbrev s_base_at : Stmt := topS 18
theorem st_base_at {x0 x1 : V} : L2.start ["text", "at", "char", "end", "pattern"] [x0, x1] = [some x0, some x1, none, none, none] := rfl
theorem sc_base_at : FnScope ["text", "at", "char", "end", "pattern"] ["text", "at"] (defScope s_base_at) := ⟨rfl, rfl, rfl, by decide +kernel, rfl, by decide +kernel, by decide +kernel⟩
abbrev s_item_at : Stmt := topS 19
theorem st_item_at {x0 x1 : V} : L2.start ["text", "at", "pattern"] [x0, x1] = [some x0, some x1, none] := rfl
theorem sc_item_at : FnScope ["text", "at", "pattern"] ["text", "at"] (defScope s_item_at) := ⟨rfl, rfl, rfl, by decide +kernel, rfl, by decide +kernel, by decide +kernel⟩
abbrev s_chain_at : Stmt := topS 20
theorem st_chain_at {x0 x1 : V} : L2.start ["text", "at", "item", "items"] [x0, x1] = [some x0, some x1, none, none] := rfl
theorem sc_chain_at : FnScope ["text", "at", "item", "items"] ["text", "at"] (defScope s_chain_at) := ⟨rfl, rfl, rfl, by decide +kernel, rfl, by decide +kernel, by decide +kernel⟩
abbrev s_pattern_at : Stmt := topS 21
theorem st_pattern_at {x0 x1 : V} : L2.start ["text", "at", "part", "parts"] [x0, x1] = [some x0, some x1, none, none] := rfl
theorem sc_pattern_at : FnScope ["text", "at", "part", "parts"] ["text", "at"] (defScope s_pattern_at) := ⟨rfl, rfl, rfl, by decide +kernel, rfl, by decide +kernel, by decide +kernel⟩
abbrev s_write_lens : Stmt := topS 24
theorem st_write_lens {x0 : V} : L2.start ["tree", "part"] [x0] = [some x0, none] := rfl
theorem sc_write_lens : FnScope ["tree", "part"] ["tree"] (defScope s_write_lens) := ⟨rfl, rfl, rfl, by decide +kernel, rfl, by decide +kernel, by decide +kernel⟩
abbrev s_shared_size : Stmt := topS 25
theorem st_shared_size {x0 x1 x2 : V} : L2.start ["text", "at", "word", "size"] [x0, x1, x2] = [some x0, some x1, some x2, none] := rfl
theorem sc_shared_size : FnScope ["text", "at", "word", "size"] ["text", "at", "word"] (defScope s_shared_size) := ⟨rfl, rfl, rfl, by decide +kernel, rfl, by decide +kernel, by decide +kernel⟩
abbrev s_opener_at : Stmt := topS 26
theorem st_opener_at {x0 x1 : V} : L2.start ["text", "at", "longest", "opener", "size"] [x0, x1] = [some x0, some x1, none, none, none] := rfl
theorem sc_opener_at : FnScope ["text", "at", "longest", "opener", "size"] ["text", "at"] (defScope s_opener_at) := ⟨rfl, rfl, rfl, by decide +kernel, rfl, by decide +kernel, by decide +kernel⟩
abbrev s_renaming_end : Stmt := topS 27
theorem st_renaming_end {x0 x1 : V} : L2.start ["text", "at", "start"] [x0, x1] = [some x0, some x1, none] := rfl
theorem sc_renaming_end : FnScope ["text", "at", "start"] ["text", "at"] (defScope s_renaming_end) := ⟨rfl, rfl, rfl, by decide +kernel, rfl, by decide +kernel, by decide +kernel⟩
abbrev s_leaf_at : Stmt := topS 28
theorem st_leaf_at {x0 x1 x2 : V} : L2.start ["text", "at", "shape", "pattern", "start", "end", "other", "last"] [x0, x1, x2] = [some x0, some x1, some x2, none, none, none, none, none] := rfl
theorem sc_leaf_at : FnScope ["text", "at", "shape", "pattern", "start", "end", "other", "last"] ["text", "at", "shape"] (defScope s_leaf_at) := ⟨rfl, rfl, rfl, by decide +kernel, rfl, by decide +kernel, by decide +kernel⟩
abbrev s_lens_at : Stmt := topS 29
theorem st_lens_at {x0 x1 : V} : L2.start ["text", "at", "opener", "shape", "part", "parts"] [x0, x1] = [some x0, some x1, none, none, none, none] := rfl
theorem sc_lens_at : FnScope ["text", "at", "opener", "shape", "part", "parts"] ["text", "at"] (defScope s_lens_at) := ⟨rfl, rfl, rfl, by decide +kernel, rfl, by decide +kernel, by decide +kernel⟩
abbrev s_read_lens : Stmt := topS 30
theorem st_read_lens {x0 : V} : L2.start ["text", "tree", "at"] [x0] = [some x0, none, none] := rfl
theorem sc_read_lens : FnScope ["text", "tree", "at"] ["text"] (defScope s_read_lens) := ⟨rfl, rfl, rfl, by decide +kernel, rfl, by decide +kernel, by decide +kernel⟩
abbrev s__law_mix : Stmt := topS 32
theorem st__law_mix {x0 x1 : V} : L2.start ["cell", "k", "first", "second"] [x0, x1] = [some x0, some x1, none, none] := rfl
theorem sc__law_mix : FnScope ["cell", "k", "first", "second"] ["cell", "k"] (defScope s__law_mix) := ⟨rfl, rfl, rfl, by decide +kernel, rfl, by decide +kernel, by decide +kernel⟩
abbrev s__law_stream : Stmt := topS 33
theorem st__law_stream {x0 x1 : V} : L2.start ["script", "many", "rest", "found", "k", "cell"] [x0, x1] = [some x0, some x1, none, none, none, none] := rfl
theorem sc__law_stream : FnScope ["script", "many", "rest", "found", "k", "cell"] ["script", "many"] (defScope s__law_stream) := ⟨rfl, rfl, rfl, by decide +kernel, rfl, by decide +kernel, by decide +kernel⟩
abbrev s__law_pick : Stmt := topS 34
theorem st__law_pick {x0 x1 x2 : V} : L2.start ["numbers", "at", "many"] [x0, x1, x2] = [some x0, some x1, some x2] := rfl
theorem sc__law_pick : FnScope ["numbers", "at", "many"] ["numbers", "at", "many"] (defScope s__law_pick) := ⟨rfl, rfl, rfl, by decide +kernel, rfl, by decide +kernel, by decide +kernel⟩
abbrev s__law_kind : Stmt := topS 35
theorem st__law_kind {x0 : V} : L2.start ["value", "item"] [x0] = [some x0, none] := rfl
theorem sc__law_kind : FnScope ["value", "item"] ["value"] (defScope s__law_kind) := ⟨rfl, rfl, rfl, by decide +kernel, rfl, by decide +kernel, by decide +kernel⟩
abbrev s__law_same : Stmt := topS 36
theorem st__law_same {x0 x1 : V} : L2.start ["answer", "due"] [x0, x1] = [some x0, some x1] := rfl
theorem sc__law_same : FnScope ["answer", "due"] ["answer", "due"] (defScope s__law_same) := ⟨rfl, rfl, rfl, by decide +kernel, rfl, by decide +kernel, by decide +kernel⟩
abbrev s__law_signs : Stmt := topS 37
theorem st__law_signs {x0 : V} : L2.start ["number", "found", "k"] [x0] = [some x0, none, none] := rfl
theorem sc__law_signs : FnScope ["number", "found", "k"] ["number"] (defScope s__law_signs) := ⟨rfl, rfl, rfl, by decide +kernel, rfl, by decide +kernel, by decide +kernel⟩
abbrev s__law_word : Stmt := topS 38
theorem st__law_word {x0 x1 : V} : L2.start ["numbers", "at", "size", "k"] [x0, x1] = [some x0, some x1, none, none] := rfl
theorem sc__law_word : FnScope ["numbers", "at", "size", "k"] ["numbers", "at"] (defScope s__law_word) := ⟨rfl, rfl, rfl, by decide +kernel, rfl, by decide +kernel, by decide +kernel⟩
abbrev s__law_renaming : Stmt := topS 39
theorem st__law_renaming {x0 x1 : V} : L2.start ["numbers", "at", "left", "to", "k", "place"] [x0, x1] = [some x0, some x1, none, none, none, none] := rfl
theorem sc__law_renaming : FnScope ["numbers", "at", "left", "to", "k", "place"] ["numbers", "at"] (defScope s__law_renaming) := ⟨rfl, rfl, rfl, by decide +kernel, rfl, by decide +kernel, by decide +kernel⟩
abbrev s__law_pattern : Stmt := topS 40
theorem st__law_pattern {x0 x1 x2 : V} : L2.start ["numbers", "at", "depth", "shape", "parts"] [x0, x1, x2] = [some x0, some x1, some x2, none, none] := rfl
theorem sc__law_pattern : FnScope ["numbers", "at", "depth", "shape", "parts"] ["numbers", "at", "depth"] (defScope s__law_pattern) := ⟨rfl, rfl, rfl, by decide +kernel, rfl, by decide +kernel, by decide +kernel⟩
abbrev s__law_tree : Stmt := topS 41
theorem st__law_tree {x0 x1 x2 : V} : L2.start ["numbers", "node", "depth", "at", "shape", "parts", "pattern", "kind"] [x0, x1, x2] = [some x0, some x1, some x2, none, none, none, none, none] := rfl
theorem sc__law_tree : FnScope ["numbers", "node", "depth", "at", "shape", "parts", "pattern", "kind"] ["numbers", "node", "depth"] (defScope s__law_tree) := ⟨rfl, rfl, rfl, by decide +kernel, rfl, by decide +kernel, by decide +kernel⟩
abbrev s__law_wrapped : Stmt := topS 42
theorem st__law_wrapped {x0 x1 x2 : V} : L2.start ["tree", "numbers", "at", "k", "shape", "leaf"] [x0, x1, x2] = [some x0, some x1, some x2, none, none, none] := rfl
theorem sc__law_wrapped : FnScope ["tree", "numbers", "at", "k", "shape", "leaf"] ["tree", "numbers", "at"] (defScope s__law_wrapped) := ⟨rfl, rfl, rfl, by decide +kernel, rfl, by decide +kernel, by decide +kernel⟩
abbrev s__law_pattern_text : Stmt := topS 43
theorem st__law_pattern_text {x0 x1 x2 x3 : V} : L2.start ["pattern", "outside", "numbers", "at", "kind", "text", "pairs", "k"] [x0, x1, x2, x3] = [some x0, some x1, some x2, some x3, none, none, none, none] := rfl
theorem sc__law_pattern_text : FnScope ["pattern", "outside", "numbers", "at", "kind", "text", "pairs", "k"] ["pattern", "outside", "numbers", "at"] (defScope s__law_pattern_text) := ⟨rfl, rfl, rfl, by decide +kernel, rfl, by decide +kernel, by decide +kernel⟩
abbrev s__law_lens_text : Stmt := topS 44
theorem st__law_lens_text {x0 x1 x2 : V} : L2.start ["tree", "numbers", "at", "words", "k"] [x0, x1, x2] = [some x0, some x1, some x2, none, none] := rfl
theorem sc__law_lens_text : FnScope ["tree", "numbers", "at", "words", "k"] ["tree", "numbers", "at"] (defScope s__law_lens_text) := ⟨rfl, rfl, rfl, by decide +kernel, rfl, by decide +kernel, by decide +kernel⟩
abbrev s__law_folded : Stmt := topS 45
theorem st__law_folded {x0 x1 : V} : L2.start ["kind", "parts", "pattern", "turn"] [x0, x1] = [some x0, some x1, none, none] := rfl
theorem sc__law_folded : FnScope ["kind", "parts", "pattern", "turn"] ["kind", "parts"] (defScope s__law_folded) := ⟨rfl, rfl, rfl, by decide +kernel, rfl, by decide +kernel, by decide +kernel⟩
abbrev s__law_end : Stmt := topS 46
theorem st__law_end {x0 x1 x2 : V} : L2.start ["text", "at", "ascending", "turn"] [x0, x1, x2] = [some x0, some x1, some x2, none] := rfl
theorem sc__law_end : FnScope ["text", "at", "ascending", "turn"] ["text", "at", "ascending"] (defScope s__law_end) := ⟨rfl, rfl, rfl, by decide +kernel, rfl, by decide +kernel, by decide +kernel⟩
abbrev s__law_read_item : Stmt := topS 47
theorem st__law_read_item {x0 x1 : V} : L2.start ["text", "at", "kind", "close", "end"] [x0, x1] = [some x0, some x1, none, none, none] := rfl
theorem sc__law_read_item : FnScope ["text", "at", "kind", "close", "end"] ["text", "at"] (defScope s__law_read_item) := ⟨rfl, rfl, rfl, by decide +kernel, rfl, by decide +kernel, by decide +kernel⟩
abbrev s__law_read_pattern : Stmt := topS 48
theorem st__law_read_pattern {x0 x1 : V} : L2.start ["text", "at", "frames", "wanted", "turn", "char", "frame", "item"] [x0, x1] = [some x0, some x1, none, none, none, none, none, none] := rfl
theorem sc__law_read_pattern : FnScope ["text", "at", "frames", "wanted", "turn", "char", "frame", "item"] ["text", "at"] (defScope s__law_read_pattern) := ⟨rfl, rfl, rfl, by decide +kernel, rfl, by decide +kernel, by decide +kernel⟩
abbrev s__law_read_leaf : Stmt := topS 49
theorem st__law_read_leaf {x0 x1 x2 : V} : L2.start ["shape", "text", "at", "pattern", "tree", "k", "start", "doubled", "end"] [x0, x1, x2] = [some x0, some x1, some x2, none, none, none, none, none, none] := rfl
theorem sc__law_read_leaf : FnScope ["shape", "text", "at", "pattern", "tree", "k", "start", "doubled", "end"] ["shape", "text", "at"] (defScope s__law_read_leaf) := ⟨rfl, rfl, rfl, by decide +kernel, rfl, by decide +kernel, by decide +kernel⟩
abbrev s__law_read_lens : Stmt := topS 50
theorem st__law_read_lens {x0 x1 : V} : L2.start ["text", "at", "shared", "name", "opener", "size", "k", "tree", "part"] [x0, x1] = [some x0, some x1, none, none, none, none, none, none, none] := rfl
theorem sc__law_read_lens : FnScope ["text", "at", "shared", "name", "opener", "size", "k", "tree", "part"] ["text", "at"] (defScope s__law_read_lens) := ⟨rfl, rfl, rfl, by decide +kernel, rfl, by decide +kernel, by decide +kernel⟩
abbrev s__law_read : Stmt := topS 51
theorem st__law_read {x0 : V} : L2.start ["text", "tree", "at"] [x0] = [some x0, none, none] := rfl
theorem sc__law_read : FnScope ["text", "tree", "at"] ["text"] (defScope s__law_read) := ⟨rfl, rfl, rfl, by decide +kernel, rfl, by decide +kernel, by decide +kernel⟩
abbrev s__law_spoilt : Stmt := topS 52
theorem st__law_spoilt {x0 x1 x2 : V} : L2.start ["text", "numbers", "first", "char", "at", "found"] [x0, x1, x2] = [some x0, some x1, some x2, none, none, none] := rfl
theorem sc__law_spoilt : FnScope ["text", "numbers", "first", "char", "at", "found"] ["text", "numbers", "first"] (defScope s__law_spoilt) := ⟨rfl, rfl, rfl, by decide +kernel, rfl, by decide +kernel, by decide +kernel⟩
abbrev s__law_written_otherwise : Stmt := topS 53
theorem st__law_written_otherwise {x0 x1 : V} : L2.start ["numbers", "at", "name", "half", "char", "word", "k", "to", "spot", "found", "other"] [x0, x1] = [some x0, some x1, none, none, none, none, none, none, none, none, none] := rfl
theorem sc__law_written_otherwise : FnScope ["numbers", "at", "name", "half", "char", "word", "k", "to", "spot", "found", "other"] ["numbers", "at"] (defScope s__law_written_otherwise) := ⟨rfl, rfl, rfl, by decide +kernel, rfl, by decide +kernel, by decide +kernel⟩
abbrev s__law_reads_right : Stmt := topS 54
theorem st__law_reads_right {x0 : V} : L2.start ["text", "due", "place", "answer", "e"] [x0] = [some x0, none, none, none, none] := rfl
theorem sc__law_reads_right : FnScope ["text", "due", "place", "answer", "e"] ["text"] (defScope s__law_reads_right) := ⟨rfl, rfl, rfl, by decide +kernel, rfl, by decide +kernel, by decide +kernel⟩
abbrev s_law : Stmt := topS 55
theorem st_law {x0 : V} : L2.start ["script", "numbers", "tree", "plain", "loose", "texts", "text"] [x0] = [some x0, none, none, none, none, none, none] := rfl
theorem sc_law : FnScope ["script", "numbers", "tree", "plain", "loose", "texts", "text"] ["script"] (defScope s_law) := ⟨rfl, rfl, rfl, by decide +kernel, rfl, by decide +kernel, by decide +kernel⟩
structure Txt (K : PySem.W.Frag) (mg : Str → Option Value) (w : World) where
  a_LensError : Addr
  g_LensError : mg "LensError" = some (.ref a_LensError)
  k_LensError : PySem.W.keepIn K (.ref a_LensError) = true
  x_LensError : PySem.W.excIn K a_LensError [.type "ValueError", .type "Exception", .type "BaseException", .type "object"] "ValueError.__new__" = true
  bP_LensError : PySem.W.subIn K (.ref a_LensError) (.type "BaseException") = some true
  tP_LensError : PySem.W.typeIn K (.ref a_LensError) = some (.type "type")
  iP_LensError : PySem.W.isClsIn K a_LensError = true
  a_TooMany : Addr
  g_TooMany : mg "TooMany" = some (.ref a_TooMany)
  k_TooMany : PySem.W.keepIn K (.ref a_TooMany) = true
  o_TooMany : OexC K a_TooMany
  ec_TooMany : ExcC K a_TooMany
  on_TooMany : PySem.W.findIn K (.ref a_TooMany) "limit" = some none
  a_NotInSource : Addr
  g_NotInSource : mg "NotInSource" = some (.ref a_NotInSource)
  k_NotInSource : PySem.W.keepIn K (.ref a_NotInSource) = true
  o_NotInSource : OexC K a_NotInSource
  ec_NotInSource : ExcC K a_NotInSource
  on_NotInSource : PySem.W.findIn K (.ref a_NotInSource) "text" = some none
  a_NotInView : Addr
  g_NotInView : mg "NotInView" = some (.ref a_NotInView)
  k_NotInView : PySem.W.keepIn K (.ref a_NotInView) = true
  o_NotInView : OexC K a_NotInView
  ec_NotInView : ExcC K a_NotInView
  on_NotInView : PySem.W.findIn K (.ref a_NotInView) "text" = some none
  a_BadText : Addr
  g_BadText : mg "BadText" = some (.ref a_BadText)
  k_BadText : PySem.W.keepIn K (.ref a_BadText) = true
  o_BadText : OexC K a_BadText
  ec_BadText : ExcC K a_BadText
  on_BadText : PySem.W.findIn K (.ref a_BadText) "index" = some none
  a_NotSound : Addr
  g_NotSound : mg "NotSound" = some (.ref a_NotSound)
  k_NotSound : PySem.W.keepIn K (.ref a_NotSound) = true
  hn_ : PySem.W.specialIn K (.builtin "object.__class__") "__get__" = some (some (.builtin "getset_descriptor.__get__"))
  htk_ : PySem.W.takesIn K (.builtin "object.__class__") = some true
  f_TooMany_init : Addr
  fd_TooMany_init : FuncData
  F_TooMany_init : Fun K "__init__" "TooMany.__init__" s_TooMany_init f_TooMany_init fd_TooMany_init
  b_TooMany_init : Binds K fd_TooMany_init ["self", "limit"] []
  oi_TooMany : PySem.W.findIn K (.ref a_TooMany) "__init__" = some (some (.ref f_TooMany_init))
  ot_TooMany : PySem.W.typeIn K (.ref f_TooMany_init) = some (.type "function")
  f_NotInSource_init : Addr
  fd_NotInSource_init : FuncData
  F_NotInSource_init : Fun K "__init__" "NotInSource.__init__" s_NotInSource_init f_NotInSource_init fd_NotInSource_init
  b_NotInSource_init : Binds K fd_NotInSource_init ["self", "text"] []
  oi_NotInSource : PySem.W.findIn K (.ref a_NotInSource) "__init__" = some (some (.ref f_NotInSource_init))
  ot_NotInSource : PySem.W.typeIn K (.ref f_NotInSource_init) = some (.type "function")
  f_NotInView_init : Addr
  fd_NotInView_init : FuncData
  F_NotInView_init : Fun K "__init__" "NotInView.__init__" s_NotInView_init f_NotInView_init fd_NotInView_init
  b_NotInView_init : Binds K fd_NotInView_init ["self", "text"] []
  oi_NotInView : PySem.W.findIn K (.ref a_NotInView) "__init__" = some (some (.ref f_NotInView_init))
  ot_NotInView : PySem.W.typeIn K (.ref f_NotInView_init) = some (.type "function")
  f_BadText_init : Addr
  fd_BadText_init : FuncData
  F_BadText_init : Fun K "__init__" "BadText.__init__" s_BadText_init f_BadText_init fd_BadText_init
  b_BadText_init : Binds K fd_BadText_init ["self", "index"] []
  oi_BadText : PySem.W.findIn K (.ref a_BadText) "__init__" = some (some (.ref f_BadText_init))
  ot_BadText : PySem.W.typeIn K (.ref f_BadText_init) = some (.type "function")
  f_children : Addr
  fd_children : FuncData
  F_children : Fun K "children" "children" s_children f_children fd_children
  b_children : Binds K fd_children ["tree"] []
  g_children : mg "children" = some (.ref f_children)
  f_enclosed : Addr
  fd_enclosed : FuncData
  F_enclosed : Fun K "enclosed" "enclosed" s_enclosed f_enclosed fd_enclosed
  b_enclosed : Binds K fd_enclosed ["pattern", "kinds"] []
  g_enclosed : mg "enclosed" = some (.ref f_enclosed)
  f_write_pattern : Addr
  fd_write_pattern : FuncData
  F_write_pattern : Fun K "write_pattern" "write_pattern" s_write_pattern f_write_pattern fd_write_pattern
  b_write_pattern : Binds K fd_write_pattern ["pattern"] []
  g_write_pattern : mg "write_pattern" = some (.ref f_write_pattern)
  f_behind : Addr
  fd_behind : FuncData
  F_behind : Fun K "behind" "behind" s_behind f_behind fd_behind
  b_behind : Binds K fd_behind ["text", "at", "char"] []
  g_behind : mg "behind" = some (.ref f_behind)
  f_signs_end : Addr
  fd_signs_end : FuncData
  F_signs_end : Fun K "signs_end" "signs_end" s_signs_end f_signs_end fd_signs_end
  b_signs_end : Binds K fd_signs_end ["text", "at"] []
  g_signs_end : mg "signs_end" = some (.ref f_signs_end)
  f_ascending_end : Addr
  fd_ascending_end : FuncData
  F_ascending_end : Fun K "ascending_end" "ascending_end" s_ascending_end f_ascending_end fd_ascending_end
  b_ascending_end : Binds K fd_ascending_end ["text", "at"] []
  g_ascending_end : mg "ascending_end" = some (.ref f_ascending_end)
  f_grouped : Addr
  fd_grouped : FuncData
  F_grouped : Fun K "grouped" "grouped" s_grouped f_grouped fd_grouped
  b_grouped : Binds K fd_grouped ["kind", "parts"] []
  g_grouped : mg "grouped" = some (.ref f_grouped)
  f_base_at : Addr
  fd_base_at : FuncData
  F_base_at : Fun K "base_at" "base_at" s_base_at f_base_at fd_base_at
  b_base_at : Binds K fd_base_at ["text", "at"] []
  g_base_at : mg "base_at" = some (.ref f_base_at)
  f_item_at : Addr
  fd_item_at : FuncData
  F_item_at : Fun K "item_at" "item_at" s_item_at f_item_at fd_item_at
  b_item_at : Binds K fd_item_at ["text", "at"] []
  g_item_at : mg "item_at" = some (.ref f_item_at)
  f_chain_at : Addr
  fd_chain_at : FuncData
  F_chain_at : Fun K "chain_at" "chain_at" s_chain_at f_chain_at fd_chain_at
  b_chain_at : Binds K fd_chain_at ["text", "at"] []
  g_chain_at : mg "chain_at" = some (.ref f_chain_at)
  f_pattern_at : Addr
  fd_pattern_at : FuncData
  F_pattern_at : Fun K "pattern_at" "pattern_at" s_pattern_at f_pattern_at fd_pattern_at
  b_pattern_at : Binds K fd_pattern_at ["text", "at"] []
  g_pattern_at : mg "pattern_at" = some (.ref f_pattern_at)
  f_write_lens : Addr
  fd_write_lens : FuncData
  F_write_lens : Fun K "write_lens" "write_lens" s_write_lens f_write_lens fd_write_lens
  b_write_lens : Binds K fd_write_lens ["tree"] []
  g_write_lens : mg "write_lens" = some (.ref f_write_lens)
  f_shared_size : Addr
  fd_shared_size : FuncData
  F_shared_size : Fun K "shared_size" "shared_size" s_shared_size f_shared_size fd_shared_size
  b_shared_size : Binds K fd_shared_size ["text", "at", "word"] []
  g_shared_size : mg "shared_size" = some (.ref f_shared_size)
  f_opener_at : Addr
  fd_opener_at : FuncData
  F_opener_at : Fun K "opener_at" "opener_at" s_opener_at f_opener_at fd_opener_at
  b_opener_at : Binds K fd_opener_at ["text", "at"] []
  g_opener_at : mg "opener_at" = some (.ref f_opener_at)
  f_renaming_end : Addr
  fd_renaming_end : FuncData
  F_renaming_end : Fun K "renaming_end" "renaming_end" s_renaming_end f_renaming_end fd_renaming_end
  b_renaming_end : Binds K fd_renaming_end ["text", "at"] []
  g_renaming_end : mg "renaming_end" = some (.ref f_renaming_end)
  f_leaf_at : Addr
  fd_leaf_at : FuncData
  F_leaf_at : Fun K "leaf_at" "leaf_at" s_leaf_at f_leaf_at fd_leaf_at
  b_leaf_at : Binds K fd_leaf_at ["text", "at", "shape"] []
  g_leaf_at : mg "leaf_at" = some (.ref f_leaf_at)
  f_lens_at : Addr
  fd_lens_at : FuncData
  F_lens_at : Fun K "lens_at" "lens_at" s_lens_at f_lens_at fd_lens_at
  b_lens_at : Binds K fd_lens_at ["text", "at"] []
  g_lens_at : mg "lens_at" = some (.ref f_lens_at)
  f_read_lens : Addr
  fd_read_lens : FuncData
  F_read_lens : Fun K "read_lens" "read_lens" s_read_lens f_read_lens fd_read_lens
  b_read_lens : Binds K fd_read_lens ["text"] []
  g_read_lens : mg "read_lens" = some (.ref f_read_lens)
  f__law_mix : Addr
  fd__law_mix : FuncData
  F__law_mix : Fun K "_law_mix" "_law_mix" s__law_mix f__law_mix fd__law_mix
  b__law_mix : Binds K fd__law_mix ["cell", "k"] []
  g__law_mix : mg "_law_mix" = some (.ref f__law_mix)
  f__law_stream : Addr
  fd__law_stream : FuncData
  F__law_stream : Fun K "_law_stream" "_law_stream" s__law_stream f__law_stream fd__law_stream
  b__law_stream : Binds K fd__law_stream ["script", "many"] []
  g__law_stream : mg "_law_stream" = some (.ref f__law_stream)
  f__law_pick : Addr
  fd__law_pick : FuncData
  F__law_pick : Fun K "_law_pick" "_law_pick" s__law_pick f__law_pick fd__law_pick
  b__law_pick : Binds K fd__law_pick ["numbers", "at", "many"] []
  g__law_pick : mg "_law_pick" = some (.ref f__law_pick)
  f__law_kind : Addr
  fd__law_kind : FuncData
  F__law_kind : Fun K "_law_kind" "_law_kind" s__law_kind f__law_kind fd__law_kind
  b__law_kind : Binds K fd__law_kind ["value"] []
  g__law_kind : mg "_law_kind" = some (.ref f__law_kind)
  f__law_same : Addr
  fd__law_same : FuncData
  F__law_same : Fun K "_law_same" "_law_same" s__law_same f__law_same fd__law_same
  b__law_same : Binds K fd__law_same ["answer", "due"] []
  g__law_same : mg "_law_same" = some (.ref f__law_same)
  f__law_signs : Addr
  fd__law_signs : FuncData
  F__law_signs : Fun K "_law_signs" "_law_signs" s__law_signs f__law_signs fd__law_signs
  b__law_signs : Binds K fd__law_signs ["number"] []
  g__law_signs : mg "_law_signs" = some (.ref f__law_signs)
  f__law_word : Addr
  fd__law_word : FuncData
  F__law_word : Fun K "_law_word" "_law_word" s__law_word f__law_word fd__law_word
  b__law_word : Binds K fd__law_word ["numbers", "at"] []
  g__law_word : mg "_law_word" = some (.ref f__law_word)
  f__law_renaming : Addr
  fd__law_renaming : FuncData
  F__law_renaming : Fun K "_law_renaming" "_law_renaming" s__law_renaming f__law_renaming fd__law_renaming
  b__law_renaming : Binds K fd__law_renaming ["numbers", "at"] []
  g__law_renaming : mg "_law_renaming" = some (.ref f__law_renaming)
  f__law_pattern : Addr
  fd__law_pattern : FuncData
  F__law_pattern : Fun K "_law_pattern" "_law_pattern" s__law_pattern f__law_pattern fd__law_pattern
  b__law_pattern : Binds K fd__law_pattern ["numbers", "at", "depth"] []
  g__law_pattern : mg "_law_pattern" = some (.ref f__law_pattern)
  f__law_tree : Addr
  fd__law_tree : FuncData
  F__law_tree : Fun K "_law_tree" "_law_tree" s__law_tree f__law_tree fd__law_tree
  b__law_tree : Binds K fd__law_tree ["numbers", "node", "depth"] []
  g__law_tree : mg "_law_tree" = some (.ref f__law_tree)
  f__law_wrapped : Addr
  fd__law_wrapped : FuncData
  F__law_wrapped : Fun K "_law_wrapped" "_law_wrapped" s__law_wrapped f__law_wrapped fd__law_wrapped
  b__law_wrapped : Binds K fd__law_wrapped ["tree", "numbers", "at"] []
  g__law_wrapped : mg "_law_wrapped" = some (.ref f__law_wrapped)
  f__law_pattern_text : Addr
  fd__law_pattern_text : FuncData
  F__law_pattern_text : Fun K "_law_pattern_text" "_law_pattern_text" s__law_pattern_text f__law_pattern_text fd__law_pattern_text
  b__law_pattern_text : Binds K fd__law_pattern_text ["pattern", "outside", "numbers", "at"] []
  g__law_pattern_text : mg "_law_pattern_text" = some (.ref f__law_pattern_text)
  f__law_lens_text : Addr
  fd__law_lens_text : FuncData
  F__law_lens_text : Fun K "_law_lens_text" "_law_lens_text" s__law_lens_text f__law_lens_text fd__law_lens_text
  b__law_lens_text : Binds K fd__law_lens_text ["tree", "numbers", "at"] []
  g__law_lens_text : mg "_law_lens_text" = some (.ref f__law_lens_text)
  f__law_folded : Addr
  fd__law_folded : FuncData
  F__law_folded : Fun K "_law_folded" "_law_folded" s__law_folded f__law_folded fd__law_folded
  b__law_folded : Binds K fd__law_folded ["kind", "parts"] []
  g__law_folded : mg "_law_folded" = some (.ref f__law_folded)
  f__law_end : Addr
  fd__law_end : FuncData
  F__law_end : Fun K "_law_end" "_law_end" s__law_end f__law_end fd__law_end
  b__law_end : Binds K fd__law_end ["text", "at", "ascending"] []
  g__law_end : mg "_law_end" = some (.ref f__law_end)
  f__law_read_item : Addr
  fd__law_read_item : FuncData
  F__law_read_item : Fun K "_law_read_item" "_law_read_item" s__law_read_item f__law_read_item fd__law_read_item
  b__law_read_item : Binds K fd__law_read_item ["text", "at"] []
  g__law_read_item : mg "_law_read_item" = some (.ref f__law_read_item)
  f__law_read_pattern : Addr
  fd__law_read_pattern : FuncData
  F__law_read_pattern : Fun K "_law_read_pattern" "_law_read_pattern" s__law_read_pattern f__law_read_pattern fd__law_read_pattern
  b__law_read_pattern : Binds K fd__law_read_pattern ["text", "at"] []
  g__law_read_pattern : mg "_law_read_pattern" = some (.ref f__law_read_pattern)
  f__law_read_leaf : Addr
  fd__law_read_leaf : FuncData
  F__law_read_leaf : Fun K "_law_read_leaf" "_law_read_leaf" s__law_read_leaf f__law_read_leaf fd__law_read_leaf
  b__law_read_leaf : Binds K fd__law_read_leaf ["shape", "text", "at"] []
  g__law_read_leaf : mg "_law_read_leaf" = some (.ref f__law_read_leaf)
  f__law_read_lens : Addr
  fd__law_read_lens : FuncData
  F__law_read_lens : Fun K "_law_read_lens" "_law_read_lens" s__law_read_lens f__law_read_lens fd__law_read_lens
  b__law_read_lens : Binds K fd__law_read_lens ["text", "at"] []
  g__law_read_lens : mg "_law_read_lens" = some (.ref f__law_read_lens)
  f__law_read : Addr
  fd__law_read : FuncData
  F__law_read : Fun K "_law_read" "_law_read" s__law_read f__law_read fd__law_read
  b__law_read : Binds K fd__law_read ["text"] []
  g__law_read : mg "_law_read" = some (.ref f__law_read)
  f__law_spoilt : Addr
  fd__law_spoilt : FuncData
  F__law_spoilt : Fun K "_law_spoilt" "_law_spoilt" s__law_spoilt f__law_spoilt fd__law_spoilt
  b__law_spoilt : Binds K fd__law_spoilt ["text", "numbers", "first"] []
  g__law_spoilt : mg "_law_spoilt" = some (.ref f__law_spoilt)
  f__law_written_otherwise : Addr
  fd__law_written_otherwise : FuncData
  F__law_written_otherwise : Fun K "_law_written_otherwise" "_law_written_otherwise" s__law_written_otherwise f__law_written_otherwise fd__law_written_otherwise
  b__law_written_otherwise : Binds K fd__law_written_otherwise ["numbers", "at"] []
  g__law_written_otherwise : mg "_law_written_otherwise" = some (.ref f__law_written_otherwise)
  f__law_reads_right : Addr
  fd__law_reads_right : FuncData
  F__law_reads_right : Fun K "_law_reads_right" "_law_reads_right" s__law_reads_right f__law_reads_right fd__law_reads_right
  b__law_reads_right : Binds K fd__law_reads_right ["text"] []
  g__law_reads_right : mg "_law_reads_right" = some (.ref f__law_reads_right)
  f_law : Addr
  fd_law : FuncData
  F_law : Fun K "law" "law" s_law f_law fd_law
  b_law : Binds K fd_law ["script"] []
  g_law : mg "law" = some (.ref f_law)
  bt_law : ∀ (s : Shared) (v : Value), BindsTo s fd_law ⟨[v], []⟩ [("script", v)]
  z_abs : mg "abs" = none
  z_bool : mg "bool" = none
  z_int : mg "int" = none
  z_isinstance : mg "isinstance" = none
  z_len : mg "len" = none
  z_list : mg "list" = none
  z_max : mg "max" = none
  z_min : mg "min" = none
  z_range : mg "range" = none
  z_reversed : mg "reversed" = none
  z_str : mg "str" = none
  z_tuple : mg "tuple" = none
  a_PLACES : Addr
  g_PLACES : mg "PLACES" = some (.ref a_PLACES)
  kd_PLACES : Gx.KIv K w a_PLACES [(":", 0), (";", 1), ("a", 2), ("b", 3), ("c", 4)]
  a_LEAVES : Addr
  g_LEAVES : mg "LEAVES" = some (.ref a_LEAVES)
  kt_LEAVES : Gx.KTs K a_LEAVES (["copy", "hide", "swap"] : List Str)
  a_OPENERS : Addr
  g_OPENERS : mg "OPENERS" = some (.ref a_OPENERS)
  kt_OPENERS : Gx.KTs K a_OPENERS (["copy{", "hide{", "swap{", "then(", "or(", "keyed(", "after(", "again("] : List Str)
  ki_tm : PySem.W.kitOne K (.ref a_BadText) (.ref a_TooMany) = some false
  ki_nis : PySem.W.kitOne K (.ref a_BadText) (.ref a_NotInSource) = some false
  ki_niv : PySem.W.kitOne K (.ref a_BadText) (.ref a_NotInView) = some false
  ki_ns : PySem.W.kitOne K (.ref a_BadText) (.ref a_NotSound) = some false
  ki_le : PySem.W.kitOne K (.ref a_BadText) (.ref a_LensError) = some true
  em_bt : PySem.W.exmOne K (.ref a_BadText) (.ref a_BadText) = some true
theorem txt_mk {K : PySem.W.Frag} {h : Heap} {mg : Str → Option Value} {w : World} (X : K.In h) (G : h.Ns mainGlobals mg) {a_LensError a_TooMany a_NotInSource a_NotInView a_BadText a_NotSound f_TooMany_init f_NotInSource_init f_NotInView_init f_BadText_init f_children f_enclosed f_write_pattern f_behind f_signs_end f_ascending_end f_grouped f_base_at f_item_at f_chain_at f_pattern_at f_write_lens f_shared_size f_opener_at f_renaming_end f_leaf_at f_lens_at f_read_lens f__law_mix f__law_stream f__law_pick f__law_kind f__law_same f__law_signs f__law_word f__law_renaming f__law_pattern f__law_tree f__law_wrapped f__law_pattern_text f__law_lens_text f__law_folded f__law_end f__law_read_item f__law_read_pattern f__law_read_leaf f__law_read_lens f__law_read f__law_spoilt f__law_written_otherwise f__law_reads_right f_law a_PLACES a_LEAVES a_OPENERS : Addr}
    {nm_TooMany q_TooMany : Str} {N_TooMany : Addr} {bs_TooMany bm_TooMany sub_TooMany : List Value} {sn_TooMany : List Str} {ab_TooMany : Bool} {col_TooMany : Option Bool} {dd_TooMany : Option Addr} {m0_TooMany m1_TooMany m2_TooMany m3_TooMany m5_TooMany : Option Value} {nm_NotInSource q_NotInSource : Str} {N_NotInSource : Addr} {bs_NotInSource bm_NotInSource sub_NotInSource : List Value} {sn_NotInSource : List Str} {ab_NotInSource : Bool} {col_NotInSource : Option Bool} {dd_NotInSource : Option Addr} {m0_NotInSource m1_NotInSource m2_NotInSource m3_NotInSource m5_NotInSource : Option Value} {nm_NotInView q_NotInView : Str} {N_NotInView : Addr} {bs_NotInView bm_NotInView sub_NotInView : List Value} {sn_NotInView : List Str} {ab_NotInView : Bool} {col_NotInView : Option Bool} {dd_NotInView : Option Addr} {m0_NotInView m1_NotInView m2_NotInView m3_NotInView m5_NotInView : Option Value} {nm_BadText q_BadText : Str} {N_BadText : Addr} {bs_BadText bm_BadText sub_BadText : List Value} {sn_BadText : List Str} {ab_BadText : Bool} {col_BadText : Option Bool} {dd_BadText : Option Addr} {m0_BadText m1_BadText m2_BadText m3_BadText m5_BadText : Option Value} {oc_TooMany_init kV_TooMany_init dc_TooMany_init pm_TooMany_init cd_TooMany_init ct_TooMany_init : Value} {od_TooMany_init an_TooMany_init : Option Addr} {sl_TooMany_init : Array (Option Value)} {oc_NotInSource_init kV_NotInSource_init dc_NotInSource_init pm_NotInSource_init cd_NotInSource_init ct_NotInSource_init : Value} {od_NotInSource_init an_NotInSource_init : Option Addr} {sl_NotInSource_init : Array (Option Value)} {oc_NotInView_init kV_NotInView_init dc_NotInView_init pm_NotInView_init cd_NotInView_init ct_NotInView_init : Value} {od_NotInView_init an_NotInView_init : Option Addr} {sl_NotInView_init : Array (Option Value)} {oc_BadText_init kV_BadText_init dc_BadText_init pm_BadText_init cd_BadText_init ct_BadText_init : Value} {od_BadText_init an_BadText_init : Option Addr} {sl_BadText_init : Array (Option Value)} {oc_children kV_children dc_children pm_children cd_children ct_children : Value} {od_children an_children : Option Addr} {sl_children : Array (Option Value)} {oc_enclosed kV_enclosed dc_enclosed pm_enclosed cd_enclosed ct_enclosed : Value} {od_enclosed an_enclosed : Option Addr} {sl_enclosed : Array (Option Value)} {oc_write_pattern kV_write_pattern dc_write_pattern pm_write_pattern cd_write_pattern ct_write_pattern : Value} {od_write_pattern an_write_pattern : Option Addr} {sl_write_pattern : Array (Option Value)} {oc_behind kV_behind dc_behind pm_behind cd_behind ct_behind : Value} {od_behind an_behind : Option Addr} {sl_behind : Array (Option Value)} {oc_signs_end kV_signs_end dc_signs_end pm_signs_end cd_signs_end ct_signs_end : Value} {od_signs_end an_signs_end : Option Addr} {sl_signs_end : Array (Option Value)} {oc_ascending_end kV_ascending_end dc_ascending_end pm_ascending_end cd_ascending_end ct_ascending_end : Value} {od_ascending_end an_ascending_end : Option Addr} {sl_ascending_end : Array (Option Value)} {oc_grouped kV_grouped dc_grouped pm_grouped cd_grouped ct_grouped : Value} {od_grouped an_grouped : Option Addr} {sl_grouped : Array (Option Value)} {oc_base_at kV_base_at dc_base_at pm_base_at cd_base_at ct_base_at : Value} {od_base_at an_base_at : Option Addr} {sl_base_at : Array (Option Value)} {oc_item_at kV_item_at dc_item_at pm_item_at cd_item_at ct_item_at : Value} {od_item_at an_item_at : Option Addr} {sl_item_at : Array (Option Value)} {oc_chain_at kV_chain_at dc_chain_at pm_chain_at cd_chain_at ct_chain_at : Value} {od_chain_at an_chain_at : Option Addr} {sl_chain_at : Array (Option Value)} {oc_pattern_at kV_pattern_at dc_pattern_at pm_pattern_at cd_pattern_at ct_pattern_at : Value} {od_pattern_at an_pattern_at : Option Addr} {sl_pattern_at : Array (Option Value)} {oc_write_lens kV_write_lens dc_write_lens pm_write_lens cd_write_lens ct_write_lens : Value} {od_write_lens an_write_lens : Option Addr} {sl_write_lens : Array (Option Value)} {oc_shared_size kV_shared_size dc_shared_size pm_shared_size cd_shared_size ct_shared_size : Value} {od_shared_size an_shared_size : Option Addr} {sl_shared_size : Array (Option Value)} {oc_opener_at kV_opener_at dc_opener_at pm_opener_at cd_opener_at ct_opener_at : Value} {od_opener_at an_opener_at : Option Addr} {sl_opener_at : Array (Option Value)} {oc_renaming_end kV_renaming_end dc_renaming_end pm_renaming_end cd_renaming_end ct_renaming_end : Value} {od_renaming_end an_renaming_end : Option Addr} {sl_renaming_end : Array (Option Value)} {oc_leaf_at kV_leaf_at dc_leaf_at pm_leaf_at cd_leaf_at ct_leaf_at : Value} {od_leaf_at an_leaf_at : Option Addr} {sl_leaf_at : Array (Option Value)} {oc_lens_at kV_lens_at dc_lens_at pm_lens_at cd_lens_at ct_lens_at : Value} {od_lens_at an_lens_at : Option Addr} {sl_lens_at : Array (Option Value)} {oc_read_lens kV_read_lens dc_read_lens pm_read_lens cd_read_lens ct_read_lens : Value} {od_read_lens an_read_lens : Option Addr} {sl_read_lens : Array (Option Value)} {oc__law_mix kV__law_mix dc__law_mix pm__law_mix cd__law_mix ct__law_mix : Value} {od__law_mix an__law_mix : Option Addr} {sl__law_mix : Array (Option Value)} {oc__law_stream kV__law_stream dc__law_stream pm__law_stream cd__law_stream ct__law_stream : Value} {od__law_stream an__law_stream : Option Addr} {sl__law_stream : Array (Option Value)} {oc__law_pick kV__law_pick dc__law_pick pm__law_pick cd__law_pick ct__law_pick : Value} {od__law_pick an__law_pick : Option Addr} {sl__law_pick : Array (Option Value)} {oc__law_kind kV__law_kind dc__law_kind pm__law_kind cd__law_kind ct__law_kind : Value} {od__law_kind an__law_kind : Option Addr} {sl__law_kind : Array (Option Value)} {oc__law_same kV__law_same dc__law_same pm__law_same cd__law_same ct__law_same : Value} {od__law_same an__law_same : Option Addr} {sl__law_same : Array (Option Value)} {oc__law_signs kV__law_signs dc__law_signs pm__law_signs cd__law_signs ct__law_signs : Value} {od__law_signs an__law_signs : Option Addr} {sl__law_signs : Array (Option Value)} {oc__law_word kV__law_word dc__law_word pm__law_word cd__law_word ct__law_word : Value} {od__law_word an__law_word : Option Addr} {sl__law_word : Array (Option Value)} {oc__law_renaming kV__law_renaming dc__law_renaming pm__law_renaming cd__law_renaming ct__law_renaming : Value} {od__law_renaming an__law_renaming : Option Addr} {sl__law_renaming : Array (Option Value)} {oc__law_pattern kV__law_pattern dc__law_pattern pm__law_pattern cd__law_pattern ct__law_pattern : Value} {od__law_pattern an__law_pattern : Option Addr} {sl__law_pattern : Array (Option Value)} {oc__law_tree kV__law_tree dc__law_tree pm__law_tree cd__law_tree ct__law_tree : Value} {od__law_tree an__law_tree : Option Addr} {sl__law_tree : Array (Option Value)} {oc__law_wrapped kV__law_wrapped dc__law_wrapped pm__law_wrapped cd__law_wrapped ct__law_wrapped : Value} {od__law_wrapped an__law_wrapped : Option Addr} {sl__law_wrapped : Array (Option Value)} {oc__law_pattern_text kV__law_pattern_text dc__law_pattern_text pm__law_pattern_text cd__law_pattern_text ct__law_pattern_text : Value} {od__law_pattern_text an__law_pattern_text : Option Addr} {sl__law_pattern_text : Array (Option Value)} {oc__law_lens_text kV__law_lens_text dc__law_lens_text pm__law_lens_text cd__law_lens_text ct__law_lens_text : Value} {od__law_lens_text an__law_lens_text : Option Addr} {sl__law_lens_text : Array (Option Value)} {oc__law_folded kV__law_folded dc__law_folded pm__law_folded cd__law_folded ct__law_folded : Value} {od__law_folded an__law_folded : Option Addr} {sl__law_folded : Array (Option Value)} {oc__law_end kV__law_end dc__law_end pm__law_end cd__law_end ct__law_end : Value} {od__law_end an__law_end : Option Addr} {sl__law_end : Array (Option Value)} {oc__law_read_item kV__law_read_item dc__law_read_item pm__law_read_item cd__law_read_item ct__law_read_item : Value} {od__law_read_item an__law_read_item : Option Addr} {sl__law_read_item : Array (Option Value)} {oc__law_read_pattern kV__law_read_pattern dc__law_read_pattern pm__law_read_pattern cd__law_read_pattern ct__law_read_pattern : Value} {od__law_read_pattern an__law_read_pattern : Option Addr} {sl__law_read_pattern : Array (Option Value)} {oc__law_read_leaf kV__law_read_leaf dc__law_read_leaf pm__law_read_leaf cd__law_read_leaf ct__law_read_leaf : Value} {od__law_read_leaf an__law_read_leaf : Option Addr} {sl__law_read_leaf : Array (Option Value)} {oc__law_read_lens kV__law_read_lens dc__law_read_lens pm__law_read_lens cd__law_read_lens ct__law_read_lens : Value} {od__law_read_lens an__law_read_lens : Option Addr} {sl__law_read_lens : Array (Option Value)} {oc__law_read kV__law_read dc__law_read pm__law_read cd__law_read ct__law_read : Value} {od__law_read an__law_read : Option Addr} {sl__law_read : Array (Option Value)} {oc__law_spoilt kV__law_spoilt dc__law_spoilt pm__law_spoilt cd__law_spoilt ct__law_spoilt : Value} {od__law_spoilt an__law_spoilt : Option Addr} {sl__law_spoilt : Array (Option Value)} {oc__law_written_otherwise kV__law_written_otherwise dc__law_written_otherwise pm__law_written_otherwise cd__law_written_otherwise ct__law_written_otherwise : Value} {od__law_written_otherwise an__law_written_otherwise : Option Addr} {sl__law_written_otherwise : Array (Option Value)} {oc__law_reads_right kV__law_reads_right dc__law_reads_right pm__law_reads_right cd__law_reads_right ct__law_reads_right : Value} {od__law_reads_right an__law_reads_right : Option Addr} {sl__law_reads_right : Array (Option Value)} {oc_law kV_law dc_law pm_law cd_law ct_law : Value} {od_law an_law : Option Addr} {sl_law : Array (Option Value)}
    (ga_LensError : PySem.W.nsIn K mainGlobals "LensError" = some (some (.ref a_LensError)))
    (k_LensError : PySem.W.keepIn K (.ref a_LensError) = true)
    (x_LensError : PySem.W.excIn K a_LensError [.type "ValueError", .type "Exception", .type "BaseException", .type "object"] "ValueError.__new__" = true)
    (bP_LensError : PySem.W.subIn K (.ref a_LensError) (.type "BaseException") = some true)
    (tP_LensError : PySem.W.typeIn K (.ref a_LensError) = some (.type "type"))
    (iP_LensError : PySem.W.isClsIn K a_LensError = true)
    (ga_TooMany : PySem.W.nsIn K mainGlobals "TooMany" = some (some (.ref a_TooMany)))
    (k_TooMany : PySem.W.keepIn K (.ref a_TooMany) = true)
    (oc_TooMany : K.lookup a_TooMany = some (excClassObj nm_TooMany q_TooMany a_TooMany N_TooMany bs_TooMany bm_TooMany true sn_TooMany sub_TooMany ab_TooMany col_TooMany dd_TooMany m0_TooMany m1_TooMany m2_TooMany m3_TooMany m5_TooMany "ValueError.__new__"))
    (orf_TooMany : PySem.HandSPX.refsVE bm_TooMany = true)
    (osa_TooMany : PySem.W.findIn K (.ref a_TooMany) "__setattr__" = some (some (.builtin "object.__setattr__")))
    (oxc_TooMany : PySem.W.subIn K (.ref a_TooMany) (.type "BaseException") = some true)
    (otc_TooMany : PySem.W.typeIn K (.ref a_TooMany) = some (.type "type"))
    (oga_TooMany : PySem.W.findIn K (.ref a_TooMany) "__getattribute__" = some (some (.builtin "BaseException.__getattribute__")))
    (ogg_TooMany : PySem.W.findIn K (.ref a_TooMany) "__getattr__" = some none)
    (ohd_TooMany : PySem.W.hasDictIn K a_TooMany = true)
    (ocl_TooMany : PySem.W.findIn K (.ref a_TooMany) "__class__" = some (some (.builtin "object.__class__")))
    (omr_TooMany : PySem.W.mroIn K a_TooMany (.type "object") = some true)
    (on_TooMany : PySem.W.findIn K (.ref a_TooMany) "limit" = some none)
    (ga_NotInSource : PySem.W.nsIn K mainGlobals "NotInSource" = some (some (.ref a_NotInSource)))
    (k_NotInSource : PySem.W.keepIn K (.ref a_NotInSource) = true)
    (oc_NotInSource : K.lookup a_NotInSource = some (excClassObj nm_NotInSource q_NotInSource a_NotInSource N_NotInSource bs_NotInSource bm_NotInSource true sn_NotInSource sub_NotInSource ab_NotInSource col_NotInSource dd_NotInSource m0_NotInSource m1_NotInSource m2_NotInSource m3_NotInSource m5_NotInSource "ValueError.__new__"))
    (orf_NotInSource : PySem.HandSPX.refsVE bm_NotInSource = true)
    (osa_NotInSource : PySem.W.findIn K (.ref a_NotInSource) "__setattr__" = some (some (.builtin "object.__setattr__")))
    (oxc_NotInSource : PySem.W.subIn K (.ref a_NotInSource) (.type "BaseException") = some true)
    (otc_NotInSource : PySem.W.typeIn K (.ref a_NotInSource) = some (.type "type"))
    (oga_NotInSource : PySem.W.findIn K (.ref a_NotInSource) "__getattribute__" = some (some (.builtin "BaseException.__getattribute__")))
    (ogg_NotInSource : PySem.W.findIn K (.ref a_NotInSource) "__getattr__" = some none)
    (ohd_NotInSource : PySem.W.hasDictIn K a_NotInSource = true)
    (ocl_NotInSource : PySem.W.findIn K (.ref a_NotInSource) "__class__" = some (some (.builtin "object.__class__")))
    (omr_NotInSource : PySem.W.mroIn K a_NotInSource (.type "object") = some true)
    (on_NotInSource : PySem.W.findIn K (.ref a_NotInSource) "text" = some none)
    (ga_NotInView : PySem.W.nsIn K mainGlobals "NotInView" = some (some (.ref a_NotInView)))
    (k_NotInView : PySem.W.keepIn K (.ref a_NotInView) = true)
    (oc_NotInView : K.lookup a_NotInView = some (excClassObj nm_NotInView q_NotInView a_NotInView N_NotInView bs_NotInView bm_NotInView true sn_NotInView sub_NotInView ab_NotInView col_NotInView dd_NotInView m0_NotInView m1_NotInView m2_NotInView m3_NotInView m5_NotInView "ValueError.__new__"))
    (orf_NotInView : PySem.HandSPX.refsVE bm_NotInView = true)
    (osa_NotInView : PySem.W.findIn K (.ref a_NotInView) "__setattr__" = some (some (.builtin "object.__setattr__")))
    (oxc_NotInView : PySem.W.subIn K (.ref a_NotInView) (.type "BaseException") = some true)
    (otc_NotInView : PySem.W.typeIn K (.ref a_NotInView) = some (.type "type"))
    (oga_NotInView : PySem.W.findIn K (.ref a_NotInView) "__getattribute__" = some (some (.builtin "BaseException.__getattribute__")))
    (ogg_NotInView : PySem.W.findIn K (.ref a_NotInView) "__getattr__" = some none)
    (ohd_NotInView : PySem.W.hasDictIn K a_NotInView = true)
    (ocl_NotInView : PySem.W.findIn K (.ref a_NotInView) "__class__" = some (some (.builtin "object.__class__")))
    (omr_NotInView : PySem.W.mroIn K a_NotInView (.type "object") = some true)
    (on_NotInView : PySem.W.findIn K (.ref a_NotInView) "text" = some none)
    (ga_BadText : PySem.W.nsIn K mainGlobals "BadText" = some (some (.ref a_BadText)))
    (k_BadText : PySem.W.keepIn K (.ref a_BadText) = true)
    (oc_BadText : K.lookup a_BadText = some (excClassObj nm_BadText q_BadText a_BadText N_BadText bs_BadText bm_BadText true sn_BadText sub_BadText ab_BadText col_BadText dd_BadText m0_BadText m1_BadText m2_BadText m3_BadText m5_BadText "ValueError.__new__"))
    (orf_BadText : PySem.HandSPX.refsVE bm_BadText = true)
    (osa_BadText : PySem.W.findIn K (.ref a_BadText) "__setattr__" = some (some (.builtin "object.__setattr__")))
    (oxc_BadText : PySem.W.subIn K (.ref a_BadText) (.type "BaseException") = some true)
    (otc_BadText : PySem.W.typeIn K (.ref a_BadText) = some (.type "type"))
    (oga_BadText : PySem.W.findIn K (.ref a_BadText) "__getattribute__" = some (some (.builtin "BaseException.__getattribute__")))
    (ogg_BadText : PySem.W.findIn K (.ref a_BadText) "__getattr__" = some none)
    (ohd_BadText : PySem.W.hasDictIn K a_BadText = true)
    (ocl_BadText : PySem.W.findIn K (.ref a_BadText) "__class__" = some (some (.builtin "object.__class__")))
    (omr_BadText : PySem.W.mroIn K a_BadText (.type "object") = some true)
    (on_BadText : PySem.W.findIn K (.ref a_BadText) "index" = some none)
    (ga_NotSound : PySem.W.nsIn K mainGlobals "NotSound" = some (some (.ref a_NotSound)))
    (k_NotSound : PySem.W.keepIn K (.ref a_NotSound) = true)
    (hn_ : PySem.W.specialIn K (.builtin "object.__class__") "__get__" = some (some (.builtin "getset_descriptor.__get__")))
    (htk_ : PySem.W.takesIn K (.builtin "object.__class__") = some true)
    (ga_TooMany_init : PySem.W.findIn K (.ref a_TooMany) "__init__" = some (some (.ref f_TooMany_init)))
    (ot_TooMany : PySem.W.typeIn K (.ref f_TooMany_init) = some (.type "function"))
    (ot_NotInSource : PySem.W.typeIn K (.ref f_NotInSource_init) = some (.type "function"))
    (ot_NotInView : PySem.W.typeIn K (.ref f_NotInView_init) = some (.type "function"))
    (ot_BadText : PySem.W.typeIn K (.ref f_BadText_init) = some (.type "function"))
    (l_TooMany_init : K.lookup f_TooMany_init = some ⟨oc_TooMany_init, od_TooMany_init, .func (PySem.W.fnOf "__init__" "TooMany.__init__" (defArgs s_TooMany_init) (defBody s_TooMany_init) (defScope s_TooMany_init) .none kV_TooMany_init dc_TooMany_init pm_TooMany_init an_TooMany_init cd_TooMany_init ct_TooMany_init), sl_TooMany_init⟩)
    (cc_TooMany_init : PySem.W.codeIn K cd_TooMany_init "TooMany.__init__" = true)
    (k_TooMany_init : PySem.W.keepIn K (.ref f_TooMany_init) = true)
    (ga_NotInSource_init : PySem.W.findIn K (.ref a_NotInSource) "__init__" = some (some (.ref f_NotInSource_init)))
    (l_NotInSource_init : K.lookup f_NotInSource_init = some ⟨oc_NotInSource_init, od_NotInSource_init, .func (PySem.W.fnOf "__init__" "NotInSource.__init__" (defArgs s_NotInSource_init) (defBody s_NotInSource_init) (defScope s_NotInSource_init) .none kV_NotInSource_init dc_NotInSource_init pm_NotInSource_init an_NotInSource_init cd_NotInSource_init ct_NotInSource_init), sl_NotInSource_init⟩)
    (cc_NotInSource_init : PySem.W.codeIn K cd_NotInSource_init "NotInSource.__init__" = true)
    (k_NotInSource_init : PySem.W.keepIn K (.ref f_NotInSource_init) = true)
    (ga_NotInView_init : PySem.W.findIn K (.ref a_NotInView) "__init__" = some (some (.ref f_NotInView_init)))
    (l_NotInView_init : K.lookup f_NotInView_init = some ⟨oc_NotInView_init, od_NotInView_init, .func (PySem.W.fnOf "__init__" "NotInView.__init__" (defArgs s_NotInView_init) (defBody s_NotInView_init) (defScope s_NotInView_init) .none kV_NotInView_init dc_NotInView_init pm_NotInView_init an_NotInView_init cd_NotInView_init ct_NotInView_init), sl_NotInView_init⟩)
    (cc_NotInView_init : PySem.W.codeIn K cd_NotInView_init "NotInView.__init__" = true)
    (k_NotInView_init : PySem.W.keepIn K (.ref f_NotInView_init) = true)
    (ga_BadText_init : PySem.W.findIn K (.ref a_BadText) "__init__" = some (some (.ref f_BadText_init)))
    (l_BadText_init : K.lookup f_BadText_init = some ⟨oc_BadText_init, od_BadText_init, .func (PySem.W.fnOf "__init__" "BadText.__init__" (defArgs s_BadText_init) (defBody s_BadText_init) (defScope s_BadText_init) .none kV_BadText_init dc_BadText_init pm_BadText_init an_BadText_init cd_BadText_init ct_BadText_init), sl_BadText_init⟩)
    (cc_BadText_init : PySem.W.codeIn K cd_BadText_init "BadText.__init__" = true)
    (k_BadText_init : PySem.W.keepIn K (.ref f_BadText_init) = true)
    (ga_children : PySem.W.nsIn K mainGlobals "children" = some (some (.ref f_children)))
    (l_children : K.lookup f_children = some ⟨oc_children, od_children, .func (PySem.W.fnOf "children" "children" (defArgs s_children) (defBody s_children) (defScope s_children) .none kV_children dc_children pm_children an_children cd_children ct_children), sl_children⟩)
    (cc_children : PySem.W.codeIn K cd_children "children" = true)
    (k_children : PySem.W.keepIn K (.ref f_children) = true)
    (ga_enclosed : PySem.W.nsIn K mainGlobals "enclosed" = some (some (.ref f_enclosed)))
    (l_enclosed : K.lookup f_enclosed = some ⟨oc_enclosed, od_enclosed, .func (PySem.W.fnOf "enclosed" "enclosed" (defArgs s_enclosed) (defBody s_enclosed) (defScope s_enclosed) .none kV_enclosed dc_enclosed pm_enclosed an_enclosed cd_enclosed ct_enclosed), sl_enclosed⟩)
    (cc_enclosed : PySem.W.codeIn K cd_enclosed "enclosed" = true)
    (k_enclosed : PySem.W.keepIn K (.ref f_enclosed) = true)
    (ga_write_pattern : PySem.W.nsIn K mainGlobals "write_pattern" = some (some (.ref f_write_pattern)))
    (l_write_pattern : K.lookup f_write_pattern = some ⟨oc_write_pattern, od_write_pattern, .func (PySem.W.fnOf "write_pattern" "write_pattern" (defArgs s_write_pattern) (defBody s_write_pattern) (defScope s_write_pattern) .none kV_write_pattern dc_write_pattern pm_write_pattern an_write_pattern cd_write_pattern ct_write_pattern), sl_write_pattern⟩)
    (cc_write_pattern : PySem.W.codeIn K cd_write_pattern "write_pattern" = true)
    (k_write_pattern : PySem.W.keepIn K (.ref f_write_pattern) = true)
    (ga_behind : PySem.W.nsIn K mainGlobals "behind" = some (some (.ref f_behind)))
    (l_behind : K.lookup f_behind = some ⟨oc_behind, od_behind, .func (PySem.W.fnOf "behind" "behind" (defArgs s_behind) (defBody s_behind) (defScope s_behind) .none kV_behind dc_behind pm_behind an_behind cd_behind ct_behind), sl_behind⟩)
    (cc_behind : PySem.W.codeIn K cd_behind "behind" = true)
    (k_behind : PySem.W.keepIn K (.ref f_behind) = true)
    (ga_signs_end : PySem.W.nsIn K mainGlobals "signs_end" = some (some (.ref f_signs_end)))
    (l_signs_end : K.lookup f_signs_end = some ⟨oc_signs_end, od_signs_end, .func (PySem.W.fnOf "signs_end" "signs_end" (defArgs s_signs_end) (defBody s_signs_end) (defScope s_signs_end) .none kV_signs_end dc_signs_end pm_signs_end an_signs_end cd_signs_end ct_signs_end), sl_signs_end⟩)
    (cc_signs_end : PySem.W.codeIn K cd_signs_end "signs_end" = true)
    (k_signs_end : PySem.W.keepIn K (.ref f_signs_end) = true)
    (ga_ascending_end : PySem.W.nsIn K mainGlobals "ascending_end" = some (some (.ref f_ascending_end)))
    (l_ascending_end : K.lookup f_ascending_end = some ⟨oc_ascending_end, od_ascending_end, .func (PySem.W.fnOf "ascending_end" "ascending_end" (defArgs s_ascending_end) (defBody s_ascending_end) (defScope s_ascending_end) .none kV_ascending_end dc_ascending_end pm_ascending_end an_ascending_end cd_ascending_end ct_ascending_end), sl_ascending_end⟩)
    (cc_ascending_end : PySem.W.codeIn K cd_ascending_end "ascending_end" = true)
    (k_ascending_end : PySem.W.keepIn K (.ref f_ascending_end) = true)
    (ga_grouped : PySem.W.nsIn K mainGlobals "grouped" = some (some (.ref f_grouped)))
    (l_grouped : K.lookup f_grouped = some ⟨oc_grouped, od_grouped, .func (PySem.W.fnOf "grouped" "grouped" (defArgs s_grouped) (defBody s_grouped) (defScope s_grouped) .none kV_grouped dc_grouped pm_grouped an_grouped cd_grouped ct_grouped), sl_grouped⟩)
    (cc_grouped : PySem.W.codeIn K cd_grouped "grouped" = true)
    (k_grouped : PySem.W.keepIn K (.ref f_grouped) = true)
    (ga_base_at : PySem.W.nsIn K mainGlobals "base_at" = some (some (.ref f_base_at)))
    (l_base_at : K.lookup f_base_at = some ⟨oc_base_at, od_base_at, .func (PySem.W.fnOf "base_at" "base_at" (defArgs s_base_at) (defBody s_base_at) (defScope s_base_at) .none kV_base_at dc_base_at pm_base_at an_base_at cd_base_at ct_base_at), sl_base_at⟩)
    (cc_base_at : PySem.W.codeIn K cd_base_at "base_at" = true)
    (k_base_at : PySem.W.keepIn K (.ref f_base_at) = true)
    (ga_item_at : PySem.W.nsIn K mainGlobals "item_at" = some (some (.ref f_item_at)))
    (l_item_at : K.lookup f_item_at = some ⟨oc_item_at, od_item_at, .func (PySem.W.fnOf "item_at" "item_at" (defArgs s_item_at) (defBody s_item_at) (defScope s_item_at) .none kV_item_at dc_item_at pm_item_at an_item_at cd_item_at ct_item_at), sl_item_at⟩)
    (cc_item_at : PySem.W.codeIn K cd_item_at "item_at" = true)
    (k_item_at : PySem.W.keepIn K (.ref f_item_at) = true)
    (ga_chain_at : PySem.W.nsIn K mainGlobals "chain_at" = some (some (.ref f_chain_at)))
    (l_chain_at : K.lookup f_chain_at = some ⟨oc_chain_at, od_chain_at, .func (PySem.W.fnOf "chain_at" "chain_at" (defArgs s_chain_at) (defBody s_chain_at) (defScope s_chain_at) .none kV_chain_at dc_chain_at pm_chain_at an_chain_at cd_chain_at ct_chain_at), sl_chain_at⟩)
    (cc_chain_at : PySem.W.codeIn K cd_chain_at "chain_at" = true)
    (k_chain_at : PySem.W.keepIn K (.ref f_chain_at) = true)
    (ga_pattern_at : PySem.W.nsIn K mainGlobals "pattern_at" = some (some (.ref f_pattern_at)))
    (l_pattern_at : K.lookup f_pattern_at = some ⟨oc_pattern_at, od_pattern_at, .func (PySem.W.fnOf "pattern_at" "pattern_at" (defArgs s_pattern_at) (defBody s_pattern_at) (defScope s_pattern_at) .none kV_pattern_at dc_pattern_at pm_pattern_at an_pattern_at cd_pattern_at ct_pattern_at), sl_pattern_at⟩)
    (cc_pattern_at : PySem.W.codeIn K cd_pattern_at "pattern_at" = true)
    (k_pattern_at : PySem.W.keepIn K (.ref f_pattern_at) = true)
    (ga_write_lens : PySem.W.nsIn K mainGlobals "write_lens" = some (some (.ref f_write_lens)))
    (l_write_lens : K.lookup f_write_lens = some ⟨oc_write_lens, od_write_lens, .func (PySem.W.fnOf "write_lens" "write_lens" (defArgs s_write_lens) (defBody s_write_lens) (defScope s_write_lens) .none kV_write_lens dc_write_lens pm_write_lens an_write_lens cd_write_lens ct_write_lens), sl_write_lens⟩)
    (cc_write_lens : PySem.W.codeIn K cd_write_lens "write_lens" = true)
    (k_write_lens : PySem.W.keepIn K (.ref f_write_lens) = true)
    (ga_shared_size : PySem.W.nsIn K mainGlobals "shared_size" = some (some (.ref f_shared_size)))
    (l_shared_size : K.lookup f_shared_size = some ⟨oc_shared_size, od_shared_size, .func (PySem.W.fnOf "shared_size" "shared_size" (defArgs s_shared_size) (defBody s_shared_size) (defScope s_shared_size) .none kV_shared_size dc_shared_size pm_shared_size an_shared_size cd_shared_size ct_shared_size), sl_shared_size⟩)
    (cc_shared_size : PySem.W.codeIn K cd_shared_size "shared_size" = true)
    (k_shared_size : PySem.W.keepIn K (.ref f_shared_size) = true)
    (ga_opener_at : PySem.W.nsIn K mainGlobals "opener_at" = some (some (.ref f_opener_at)))
    (l_opener_at : K.lookup f_opener_at = some ⟨oc_opener_at, od_opener_at, .func (PySem.W.fnOf "opener_at" "opener_at" (defArgs s_opener_at) (defBody s_opener_at) (defScope s_opener_at) .none kV_opener_at dc_opener_at pm_opener_at an_opener_at cd_opener_at ct_opener_at), sl_opener_at⟩)
    (cc_opener_at : PySem.W.codeIn K cd_opener_at "opener_at" = true)
    (k_opener_at : PySem.W.keepIn K (.ref f_opener_at) = true)
    (ga_renaming_end : PySem.W.nsIn K mainGlobals "renaming_end" = some (some (.ref f_renaming_end)))
    (l_renaming_end : K.lookup f_renaming_end = some ⟨oc_renaming_end, od_renaming_end, .func (PySem.W.fnOf "renaming_end" "renaming_end" (defArgs s_renaming_end) (defBody s_renaming_end) (defScope s_renaming_end) .none kV_renaming_end dc_renaming_end pm_renaming_end an_renaming_end cd_renaming_end ct_renaming_end), sl_renaming_end⟩)
    (cc_renaming_end : PySem.W.codeIn K cd_renaming_end "renaming_end" = true)
    (k_renaming_end : PySem.W.keepIn K (.ref f_renaming_end) = true)
    (ga_leaf_at : PySem.W.nsIn K mainGlobals "leaf_at" = some (some (.ref f_leaf_at)))
    (l_leaf_at : K.lookup f_leaf_at = some ⟨oc_leaf_at, od_leaf_at, .func (PySem.W.fnOf "leaf_at" "leaf_at" (defArgs s_leaf_at) (defBody s_leaf_at) (defScope s_leaf_at) .none kV_leaf_at dc_leaf_at pm_leaf_at an_leaf_at cd_leaf_at ct_leaf_at), sl_leaf_at⟩)
    (cc_leaf_at : PySem.W.codeIn K cd_leaf_at "leaf_at" = true)
    (k_leaf_at : PySem.W.keepIn K (.ref f_leaf_at) = true)
    (ga_lens_at : PySem.W.nsIn K mainGlobals "lens_at" = some (some (.ref f_lens_at)))
    (l_lens_at : K.lookup f_lens_at = some ⟨oc_lens_at, od_lens_at, .func (PySem.W.fnOf "lens_at" "lens_at" (defArgs s_lens_at) (defBody s_lens_at) (defScope s_lens_at) .none kV_lens_at dc_lens_at pm_lens_at an_lens_at cd_lens_at ct_lens_at), sl_lens_at⟩)
    (cc_lens_at : PySem.W.codeIn K cd_lens_at "lens_at" = true)
    (k_lens_at : PySem.W.keepIn K (.ref f_lens_at) = true)
    (ga_read_lens : PySem.W.nsIn K mainGlobals "read_lens" = some (some (.ref f_read_lens)))
    (l_read_lens : K.lookup f_read_lens = some ⟨oc_read_lens, od_read_lens, .func (PySem.W.fnOf "read_lens" "read_lens" (defArgs s_read_lens) (defBody s_read_lens) (defScope s_read_lens) .none kV_read_lens dc_read_lens pm_read_lens an_read_lens cd_read_lens ct_read_lens), sl_read_lens⟩)
    (cc_read_lens : PySem.W.codeIn K cd_read_lens "read_lens" = true)
    (k_read_lens : PySem.W.keepIn K (.ref f_read_lens) = true)
    (ga__law_mix : PySem.W.nsIn K mainGlobals "_law_mix" = some (some (.ref f__law_mix)))
    (l__law_mix : K.lookup f__law_mix = some ⟨oc__law_mix, od__law_mix, .func (PySem.W.fnOf "_law_mix" "_law_mix" (defArgs s__law_mix) (defBody s__law_mix) (defScope s__law_mix) .none kV__law_mix dc__law_mix pm__law_mix an__law_mix cd__law_mix ct__law_mix), sl__law_mix⟩)
    (cc__law_mix : PySem.W.codeIn K cd__law_mix "_law_mix" = true)
    (k__law_mix : PySem.W.keepIn K (.ref f__law_mix) = true)
    (ga__law_stream : PySem.W.nsIn K mainGlobals "_law_stream" = some (some (.ref f__law_stream)))
    (l__law_stream : K.lookup f__law_stream = some ⟨oc__law_stream, od__law_stream, .func (PySem.W.fnOf "_law_stream" "_law_stream" (defArgs s__law_stream) (defBody s__law_stream) (defScope s__law_stream) .none kV__law_stream dc__law_stream pm__law_stream an__law_stream cd__law_stream ct__law_stream), sl__law_stream⟩)
    (cc__law_stream : PySem.W.codeIn K cd__law_stream "_law_stream" = true)
    (k__law_stream : PySem.W.keepIn K (.ref f__law_stream) = true)
    (ga__law_pick : PySem.W.nsIn K mainGlobals "_law_pick" = some (some (.ref f__law_pick)))
    (l__law_pick : K.lookup f__law_pick = some ⟨oc__law_pick, od__law_pick, .func (PySem.W.fnOf "_law_pick" "_law_pick" (defArgs s__law_pick) (defBody s__law_pick) (defScope s__law_pick) .none kV__law_pick dc__law_pick pm__law_pick an__law_pick cd__law_pick ct__law_pick), sl__law_pick⟩)
    (cc__law_pick : PySem.W.codeIn K cd__law_pick "_law_pick" = true)
    (k__law_pick : PySem.W.keepIn K (.ref f__law_pick) = true)
    (ga__law_kind : PySem.W.nsIn K mainGlobals "_law_kind" = some (some (.ref f__law_kind)))
    (l__law_kind : K.lookup f__law_kind = some ⟨oc__law_kind, od__law_kind, .func (PySem.W.fnOf "_law_kind" "_law_kind" (defArgs s__law_kind) (defBody s__law_kind) (defScope s__law_kind) .none kV__law_kind dc__law_kind pm__law_kind an__law_kind cd__law_kind ct__law_kind), sl__law_kind⟩)
    (cc__law_kind : PySem.W.codeIn K cd__law_kind "_law_kind" = true)
    (k__law_kind : PySem.W.keepIn K (.ref f__law_kind) = true)
    (ga__law_same : PySem.W.nsIn K mainGlobals "_law_same" = some (some (.ref f__law_same)))
    (l__law_same : K.lookup f__law_same = some ⟨oc__law_same, od__law_same, .func (PySem.W.fnOf "_law_same" "_law_same" (defArgs s__law_same) (defBody s__law_same) (defScope s__law_same) .none kV__law_same dc__law_same pm__law_same an__law_same cd__law_same ct__law_same), sl__law_same⟩)
    (cc__law_same : PySem.W.codeIn K cd__law_same "_law_same" = true)
    (k__law_same : PySem.W.keepIn K (.ref f__law_same) = true)
    (ga__law_signs : PySem.W.nsIn K mainGlobals "_law_signs" = some (some (.ref f__law_signs)))
    (l__law_signs : K.lookup f__law_signs = some ⟨oc__law_signs, od__law_signs, .func (PySem.W.fnOf "_law_signs" "_law_signs" (defArgs s__law_signs) (defBody s__law_signs) (defScope s__law_signs) .none kV__law_signs dc__law_signs pm__law_signs an__law_signs cd__law_signs ct__law_signs), sl__law_signs⟩)
    (cc__law_signs : PySem.W.codeIn K cd__law_signs "_law_signs" = true)
    (k__law_signs : PySem.W.keepIn K (.ref f__law_signs) = true)
    (ga__law_word : PySem.W.nsIn K mainGlobals "_law_word" = some (some (.ref f__law_word)))
    (l__law_word : K.lookup f__law_word = some ⟨oc__law_word, od__law_word, .func (PySem.W.fnOf "_law_word" "_law_word" (defArgs s__law_word) (defBody s__law_word) (defScope s__law_word) .none kV__law_word dc__law_word pm__law_word an__law_word cd__law_word ct__law_word), sl__law_word⟩)
    (cc__law_word : PySem.W.codeIn K cd__law_word "_law_word" = true)
    (k__law_word : PySem.W.keepIn K (.ref f__law_word) = true)
    (ga__law_renaming : PySem.W.nsIn K mainGlobals "_law_renaming" = some (some (.ref f__law_renaming)))
    (l__law_renaming : K.lookup f__law_renaming = some ⟨oc__law_renaming, od__law_renaming, .func (PySem.W.fnOf "_law_renaming" "_law_renaming" (defArgs s__law_renaming) (defBody s__law_renaming) (defScope s__law_renaming) .none kV__law_renaming dc__law_renaming pm__law_renaming an__law_renaming cd__law_renaming ct__law_renaming), sl__law_renaming⟩)
    (cc__law_renaming : PySem.W.codeIn K cd__law_renaming "_law_renaming" = true)
    (k__law_renaming : PySem.W.keepIn K (.ref f__law_renaming) = true)
    (ga__law_pattern : PySem.W.nsIn K mainGlobals "_law_pattern" = some (some (.ref f__law_pattern)))
    (l__law_pattern : K.lookup f__law_pattern = some ⟨oc__law_pattern, od__law_pattern, .func (PySem.W.fnOf "_law_pattern" "_law_pattern" (defArgs s__law_pattern) (defBody s__law_pattern) (defScope s__law_pattern) .none kV__law_pattern dc__law_pattern pm__law_pattern an__law_pattern cd__law_pattern ct__law_pattern), sl__law_pattern⟩)
    (cc__law_pattern : PySem.W.codeIn K cd__law_pattern "_law_pattern" = true)
    (k__law_pattern : PySem.W.keepIn K (.ref f__law_pattern) = true)
    (ga__law_tree : PySem.W.nsIn K mainGlobals "_law_tree" = some (some (.ref f__law_tree)))
    (l__law_tree : K.lookup f__law_tree = some ⟨oc__law_tree, od__law_tree, .func (PySem.W.fnOf "_law_tree" "_law_tree" (defArgs s__law_tree) (defBody s__law_tree) (defScope s__law_tree) .none kV__law_tree dc__law_tree pm__law_tree an__law_tree cd__law_tree ct__law_tree), sl__law_tree⟩)
    (cc__law_tree : PySem.W.codeIn K cd__law_tree "_law_tree" = true)
    (k__law_tree : PySem.W.keepIn K (.ref f__law_tree) = true)
    (ga__law_wrapped : PySem.W.nsIn K mainGlobals "_law_wrapped" = some (some (.ref f__law_wrapped)))
    (l__law_wrapped : K.lookup f__law_wrapped = some ⟨oc__law_wrapped, od__law_wrapped, .func (PySem.W.fnOf "_law_wrapped" "_law_wrapped" (defArgs s__law_wrapped) (defBody s__law_wrapped) (defScope s__law_wrapped) .none kV__law_wrapped dc__law_wrapped pm__law_wrapped an__law_wrapped cd__law_wrapped ct__law_wrapped), sl__law_wrapped⟩)
    (cc__law_wrapped : PySem.W.codeIn K cd__law_wrapped "_law_wrapped" = true)
    (k__law_wrapped : PySem.W.keepIn K (.ref f__law_wrapped) = true)
    (ga__law_pattern_text : PySem.W.nsIn K mainGlobals "_law_pattern_text" = some (some (.ref f__law_pattern_text)))
    (l__law_pattern_text : K.lookup f__law_pattern_text = some ⟨oc__law_pattern_text, od__law_pattern_text, .func (PySem.W.fnOf "_law_pattern_text" "_law_pattern_text" (defArgs s__law_pattern_text) (defBody s__law_pattern_text) (defScope s__law_pattern_text) .none kV__law_pattern_text dc__law_pattern_text pm__law_pattern_text an__law_pattern_text cd__law_pattern_text ct__law_pattern_text), sl__law_pattern_text⟩)
    (cc__law_pattern_text : PySem.W.codeIn K cd__law_pattern_text "_law_pattern_text" = true)
    (k__law_pattern_text : PySem.W.keepIn K (.ref f__law_pattern_text) = true)
    (ga__law_lens_text : PySem.W.nsIn K mainGlobals "_law_lens_text" = some (some (.ref f__law_lens_text)))
    (l__law_lens_text : K.lookup f__law_lens_text = some ⟨oc__law_lens_text, od__law_lens_text, .func (PySem.W.fnOf "_law_lens_text" "_law_lens_text" (defArgs s__law_lens_text) (defBody s__law_lens_text) (defScope s__law_lens_text) .none kV__law_lens_text dc__law_lens_text pm__law_lens_text an__law_lens_text cd__law_lens_text ct__law_lens_text), sl__law_lens_text⟩)
    (cc__law_lens_text : PySem.W.codeIn K cd__law_lens_text "_law_lens_text" = true)
    (k__law_lens_text : PySem.W.keepIn K (.ref f__law_lens_text) = true)
    (ga__law_folded : PySem.W.nsIn K mainGlobals "_law_folded" = some (some (.ref f__law_folded)))
    (l__law_folded : K.lookup f__law_folded = some ⟨oc__law_folded, od__law_folded, .func (PySem.W.fnOf "_law_folded" "_law_folded" (defArgs s__law_folded) (defBody s__law_folded) (defScope s__law_folded) .none kV__law_folded dc__law_folded pm__law_folded an__law_folded cd__law_folded ct__law_folded), sl__law_folded⟩)
    (cc__law_folded : PySem.W.codeIn K cd__law_folded "_law_folded" = true)
    (k__law_folded : PySem.W.keepIn K (.ref f__law_folded) = true)
    (ga__law_end : PySem.W.nsIn K mainGlobals "_law_end" = some (some (.ref f__law_end)))
    (l__law_end : K.lookup f__law_end = some ⟨oc__law_end, od__law_end, .func (PySem.W.fnOf "_law_end" "_law_end" (defArgs s__law_end) (defBody s__law_end) (defScope s__law_end) .none kV__law_end dc__law_end pm__law_end an__law_end cd__law_end ct__law_end), sl__law_end⟩)
    (cc__law_end : PySem.W.codeIn K cd__law_end "_law_end" = true)
    (k__law_end : PySem.W.keepIn K (.ref f__law_end) = true)
    (ga__law_read_item : PySem.W.nsIn K mainGlobals "_law_read_item" = some (some (.ref f__law_read_item)))
    (l__law_read_item : K.lookup f__law_read_item = some ⟨oc__law_read_item, od__law_read_item, .func (PySem.W.fnOf "_law_read_item" "_law_read_item" (defArgs s__law_read_item) (defBody s__law_read_item) (defScope s__law_read_item) .none kV__law_read_item dc__law_read_item pm__law_read_item an__law_read_item cd__law_read_item ct__law_read_item), sl__law_read_item⟩)
    (cc__law_read_item : PySem.W.codeIn K cd__law_read_item "_law_read_item" = true)
    (k__law_read_item : PySem.W.keepIn K (.ref f__law_read_item) = true)
    (ga__law_read_pattern : PySem.W.nsIn K mainGlobals "_law_read_pattern" = some (some (.ref f__law_read_pattern)))
    (l__law_read_pattern : K.lookup f__law_read_pattern = some ⟨oc__law_read_pattern, od__law_read_pattern, .func (PySem.W.fnOf "_law_read_pattern" "_law_read_pattern" (defArgs s__law_read_pattern) (defBody s__law_read_pattern) (defScope s__law_read_pattern) .none kV__law_read_pattern dc__law_read_pattern pm__law_read_pattern an__law_read_pattern cd__law_read_pattern ct__law_read_pattern), sl__law_read_pattern⟩)
    (cc__law_read_pattern : PySem.W.codeIn K cd__law_read_pattern "_law_read_pattern" = true)
    (k__law_read_pattern : PySem.W.keepIn K (.ref f__law_read_pattern) = true)
    (ga__law_read_leaf : PySem.W.nsIn K mainGlobals "_law_read_leaf" = some (some (.ref f__law_read_leaf)))
    (l__law_read_leaf : K.lookup f__law_read_leaf = some ⟨oc__law_read_leaf, od__law_read_leaf, .func (PySem.W.fnOf "_law_read_leaf" "_law_read_leaf" (defArgs s__law_read_leaf) (defBody s__law_read_leaf) (defScope s__law_read_leaf) .none kV__law_read_leaf dc__law_read_leaf pm__law_read_leaf an__law_read_leaf cd__law_read_leaf ct__law_read_leaf), sl__law_read_leaf⟩)
    (cc__law_read_leaf : PySem.W.codeIn K cd__law_read_leaf "_law_read_leaf" = true)
    (k__law_read_leaf : PySem.W.keepIn K (.ref f__law_read_leaf) = true)
    (ga__law_read_lens : PySem.W.nsIn K mainGlobals "_law_read_lens" = some (some (.ref f__law_read_lens)))
    (l__law_read_lens : K.lookup f__law_read_lens = some ⟨oc__law_read_lens, od__law_read_lens, .func (PySem.W.fnOf "_law_read_lens" "_law_read_lens" (defArgs s__law_read_lens) (defBody s__law_read_lens) (defScope s__law_read_lens) .none kV__law_read_lens dc__law_read_lens pm__law_read_lens an__law_read_lens cd__law_read_lens ct__law_read_lens), sl__law_read_lens⟩)
    (cc__law_read_lens : PySem.W.codeIn K cd__law_read_lens "_law_read_lens" = true)
    (k__law_read_lens : PySem.W.keepIn K (.ref f__law_read_lens) = true)
    (ga__law_read : PySem.W.nsIn K mainGlobals "_law_read" = some (some (.ref f__law_read)))
    (l__law_read : K.lookup f__law_read = some ⟨oc__law_read, od__law_read, .func (PySem.W.fnOf "_law_read" "_law_read" (defArgs s__law_read) (defBody s__law_read) (defScope s__law_read) .none kV__law_read dc__law_read pm__law_read an__law_read cd__law_read ct__law_read), sl__law_read⟩)
    (cc__law_read : PySem.W.codeIn K cd__law_read "_law_read" = true)
    (k__law_read : PySem.W.keepIn K (.ref f__law_read) = true)
    (ga__law_spoilt : PySem.W.nsIn K mainGlobals "_law_spoilt" = some (some (.ref f__law_spoilt)))
    (l__law_spoilt : K.lookup f__law_spoilt = some ⟨oc__law_spoilt, od__law_spoilt, .func (PySem.W.fnOf "_law_spoilt" "_law_spoilt" (defArgs s__law_spoilt) (defBody s__law_spoilt) (defScope s__law_spoilt) .none kV__law_spoilt dc__law_spoilt pm__law_spoilt an__law_spoilt cd__law_spoilt ct__law_spoilt), sl__law_spoilt⟩)
    (cc__law_spoilt : PySem.W.codeIn K cd__law_spoilt "_law_spoilt" = true)
    (k__law_spoilt : PySem.W.keepIn K (.ref f__law_spoilt) = true)
    (ga__law_written_otherwise : PySem.W.nsIn K mainGlobals "_law_written_otherwise" = some (some (.ref f__law_written_otherwise)))
    (l__law_written_otherwise : K.lookup f__law_written_otherwise = some ⟨oc__law_written_otherwise, od__law_written_otherwise, .func (PySem.W.fnOf "_law_written_otherwise" "_law_written_otherwise" (defArgs s__law_written_otherwise) (defBody s__law_written_otherwise) (defScope s__law_written_otherwise) .none kV__law_written_otherwise dc__law_written_otherwise pm__law_written_otherwise an__law_written_otherwise cd__law_written_otherwise ct__law_written_otherwise), sl__law_written_otherwise⟩)
    (cc__law_written_otherwise : PySem.W.codeIn K cd__law_written_otherwise "_law_written_otherwise" = true)
    (k__law_written_otherwise : PySem.W.keepIn K (.ref f__law_written_otherwise) = true)
    (ga__law_reads_right : PySem.W.nsIn K mainGlobals "_law_reads_right" = some (some (.ref f__law_reads_right)))
    (l__law_reads_right : K.lookup f__law_reads_right = some ⟨oc__law_reads_right, od__law_reads_right, .func (PySem.W.fnOf "_law_reads_right" "_law_reads_right" (defArgs s__law_reads_right) (defBody s__law_reads_right) (defScope s__law_reads_right) .none kV__law_reads_right dc__law_reads_right pm__law_reads_right an__law_reads_right cd__law_reads_right ct__law_reads_right), sl__law_reads_right⟩)
    (cc__law_reads_right : PySem.W.codeIn K cd__law_reads_right "_law_reads_right" = true)
    (k__law_reads_right : PySem.W.keepIn K (.ref f__law_reads_right) = true)
    (ga_law : PySem.W.nsIn K mainGlobals "law" = some (some (.ref f_law)))
    (l_law : K.lookup f_law = some ⟨oc_law, od_law, .func (PySem.W.fnOf "law" "law" (defArgs s_law) (defBody s_law) (defScope s_law) .none kV_law dc_law pm_law an_law cd_law ct_law), sl_law⟩)
    (cc_law : PySem.W.codeIn K cd_law "law" = true)
    (k_law : PySem.W.keepIn K (.ref f_law) = true)
    (zz_abs : PySem.W.nsIn K mainGlobals "abs" = some none)
    (zz_bool : PySem.W.nsIn K mainGlobals "bool" = some none)
    (zz_int : PySem.W.nsIn K mainGlobals "int" = some none)
    (zz_isinstance : PySem.W.nsIn K mainGlobals "isinstance" = some none)
    (zz_len : PySem.W.nsIn K mainGlobals "len" = some none)
    (zz_list : PySem.W.nsIn K mainGlobals "list" = some none)
    (zz_max : PySem.W.nsIn K mainGlobals "max" = some none)
    (zz_min : PySem.W.nsIn K mainGlobals "min" = some none)
    (zz_range : PySem.W.nsIn K mainGlobals "range" = some none)
    (zz_reversed : PySem.W.nsIn K mainGlobals "reversed" = some none)
    (zz_str : PySem.W.nsIn K mainGlobals "str" = some none)
    (zz_tuple : PySem.W.nsIn K mainGlobals "tuple" = some none)
    (ga_PLACES : PySem.W.nsIn K mainGlobals "PLACES" = some (some (.ref a_PLACES)))
    (dw_PLACES : He.dicW K a_PLACES = some (He.keysIn w.params ([":", ";", "a", "b", "c"] : List Str)))
    (di_PLACES : Gx.intsW K a_PLACES = some ([(":", 0), (";", 1), ("a", 2), ("b", 3), ("c", 4)] : List (Str × Int)))
    (ga_LEAVES : PySem.W.nsIn K mainGlobals "LEAVES" = some (some (.ref a_LEAVES)))
    (kty_LEAVES : PySem.W.typeIn K (.ref a_LEAVES) = some (.type "tuple"))
    (kts_LEAVES : Gx.tupW K a_LEAVES = some (["copy", "hide", "swap"] : List Str))
    (ga_OPENERS : PySem.W.nsIn K mainGlobals "OPENERS" = some (some (.ref a_OPENERS)))
    (kty_OPENERS : PySem.W.typeIn K (.ref a_OPENERS) = some (.type "tuple"))
    (kts_OPENERS : Gx.tupW K a_OPENERS = some (["copy{", "hide{", "swap{", "then(", "or(", "keyed(", "after(", "again("] : List Str))
    (ki_tm : PySem.W.kitOne K (.ref a_BadText) (.ref a_TooMany) = some false)
    (ki_nis : PySem.W.kitOne K (.ref a_BadText) (.ref a_NotInSource) = some false)
    (ki_niv : PySem.W.kitOne K (.ref a_BadText) (.ref a_NotInView) = some false)
    (ki_ns : PySem.W.kitOne K (.ref a_BadText) (.ref a_NotSound) = some false)
    (ki_le : PySem.W.kitOne K (.ref a_BadText) (.ref a_LensError) = some true)
    (em_bt : PySem.W.exmOne K (.ref a_BadText) (.ref a_BadText) = some true)
    {fa : Addr} (hfa : mg "law" = some (.ref fa)) : ∃ T : Txt K mg w, T.f_law = fa := by
  have e := hfa.symm.trans (PySem.W.mg_of X G ga_law)
  cases e
  exact ⟨{
      a_LensError := a_LensError,
      g_LensError := PySem.W.mg_of X G ga_LensError,
      k_LensError := k_LensError,
      x_LensError := x_LensError,
      bP_LensError := bP_LensError,
      tP_LensError := tP_LensError,
      iP_LensError := iP_LensError,
      a_TooMany := a_TooMany,
      g_TooMany := PySem.W.mg_of X G ga_TooMany,
      k_TooMany := k_TooMany,
      o_TooMany := ⟨⟨nm_TooMany, q_TooMany, N_TooMany, bs_TooMany, _, sn_TooMany, sub_TooMany, ab_TooMany, col_TooMany, dd_TooMany, m0_TooMany, m1_TooMany, m2_TooMany, m3_TooMany, m5_TooMany, oc_TooMany, orf_TooMany⟩, osa_TooMany, oxc_TooMany, otc_TooMany, k_TooMany⟩,
      ec_TooMany := ⟨oga_TooMany, ogg_TooMany, oxc_TooMany, ohd_TooMany, ocl_TooMany, hn_, htk_, omr_TooMany⟩,
      on_TooMany := on_TooMany,
      ot_TooMany := ot_TooMany,
      a_NotInSource := a_NotInSource,
      g_NotInSource := PySem.W.mg_of X G ga_NotInSource,
      k_NotInSource := k_NotInSource,
      o_NotInSource := ⟨⟨nm_NotInSource, q_NotInSource, N_NotInSource, bs_NotInSource, _, sn_NotInSource, sub_NotInSource, ab_NotInSource, col_NotInSource, dd_NotInSource, m0_NotInSource, m1_NotInSource, m2_NotInSource, m3_NotInSource, m5_NotInSource, oc_NotInSource, orf_NotInSource⟩, osa_NotInSource, oxc_NotInSource, otc_NotInSource, k_NotInSource⟩,
      ec_NotInSource := ⟨oga_NotInSource, ogg_NotInSource, oxc_NotInSource, ohd_NotInSource, ocl_NotInSource, hn_, htk_, omr_NotInSource⟩,
      on_NotInSource := on_NotInSource,
      ot_NotInSource := ot_NotInSource,
      a_NotInView := a_NotInView,
      g_NotInView := PySem.W.mg_of X G ga_NotInView,
      k_NotInView := k_NotInView,
      o_NotInView := ⟨⟨nm_NotInView, q_NotInView, N_NotInView, bs_NotInView, _, sn_NotInView, sub_NotInView, ab_NotInView, col_NotInView, dd_NotInView, m0_NotInView, m1_NotInView, m2_NotInView, m3_NotInView, m5_NotInView, oc_NotInView, orf_NotInView⟩, osa_NotInView, oxc_NotInView, otc_NotInView, k_NotInView⟩,
      ec_NotInView := ⟨oga_NotInView, ogg_NotInView, oxc_NotInView, ohd_NotInView, ocl_NotInView, hn_, htk_, omr_NotInView⟩,
      on_NotInView := on_NotInView,
      ot_NotInView := ot_NotInView,
      a_BadText := a_BadText,
      g_BadText := PySem.W.mg_of X G ga_BadText,
      k_BadText := k_BadText,
      o_BadText := ⟨⟨nm_BadText, q_BadText, N_BadText, bs_BadText, _, sn_BadText, sub_BadText, ab_BadText, col_BadText, dd_BadText, m0_BadText, m1_BadText, m2_BadText, m3_BadText, m5_BadText, oc_BadText, orf_BadText⟩, osa_BadText, oxc_BadText, otc_BadText, k_BadText⟩,
      ec_BadText := ⟨oga_BadText, ogg_BadText, oxc_BadText, ohd_BadText, ocl_BadText, hn_, htk_, omr_BadText⟩,
      on_BadText := on_BadText,
      ot_BadText := ot_BadText,
      a_NotSound := a_NotSound,
      g_NotSound := PySem.W.mg_of X G ga_NotSound,
      k_NotSound := k_NotSound,
      hn_ := hn_,
      htk_ := htk_,
      oi_TooMany := ga_TooMany_init,
      f_TooMany_init := f_TooMany_init,
      fd_TooMany_init := _,
      F_TooMany_init := fun_mk (st := s_TooMany_init) l_TooMany_init cc_TooMany_init k_TooMany_init,
      b_TooMany_init := (fun_mk (st := s_TooMany_init) l_TooMany_init cc_TooMany_init k_TooMany_init).binds (ps := ["self", "limit"]) fun _ _ _ _ _ _ us hl => match us, hl with | [_, _], _ => rfl,
      oi_NotInSource := ga_NotInSource_init,
      f_NotInSource_init := f_NotInSource_init,
      fd_NotInSource_init := _,
      F_NotInSource_init := fun_mk (st := s_NotInSource_init) l_NotInSource_init cc_NotInSource_init k_NotInSource_init,
      b_NotInSource_init := (fun_mk (st := s_NotInSource_init) l_NotInSource_init cc_NotInSource_init k_NotInSource_init).binds (ps := ["self", "text"]) fun _ _ _ _ _ _ us hl => match us, hl with | [_, _], _ => rfl,
      oi_NotInView := ga_NotInView_init,
      f_NotInView_init := f_NotInView_init,
      fd_NotInView_init := _,
      F_NotInView_init := fun_mk (st := s_NotInView_init) l_NotInView_init cc_NotInView_init k_NotInView_init,
      b_NotInView_init := (fun_mk (st := s_NotInView_init) l_NotInView_init cc_NotInView_init k_NotInView_init).binds (ps := ["self", "text"]) fun _ _ _ _ _ _ us hl => match us, hl with | [_, _], _ => rfl,
      oi_BadText := ga_BadText_init,
      f_BadText_init := f_BadText_init,
      fd_BadText_init := _,
      F_BadText_init := fun_mk (st := s_BadText_init) l_BadText_init cc_BadText_init k_BadText_init,
      b_BadText_init := (fun_mk (st := s_BadText_init) l_BadText_init cc_BadText_init k_BadText_init).binds (ps := ["self", "index"]) fun _ _ _ _ _ _ us hl => match us, hl with | [_, _], _ => rfl,
      g_children := PySem.W.mg_of X G ga_children,
      f_children := f_children,
      fd_children := _,
      F_children := fun_mk (st := s_children) l_children cc_children k_children,
      b_children := (fun_mk (st := s_children) l_children cc_children k_children).binds (ps := ["tree"]) fun _ _ _ _ _ _ us hl => match us, hl with | [_], _ => rfl,
      g_enclosed := PySem.W.mg_of X G ga_enclosed,
      f_enclosed := f_enclosed,
      fd_enclosed := _,
      F_enclosed := fun_mk (st := s_enclosed) l_enclosed cc_enclosed k_enclosed,
      b_enclosed := (fun_mk (st := s_enclosed) l_enclosed cc_enclosed k_enclosed).binds (ps := ["pattern", "kinds"]) fun _ _ _ _ _ _ us hl => match us, hl with | [_, _], _ => rfl,
      g_write_pattern := PySem.W.mg_of X G ga_write_pattern,
      f_write_pattern := f_write_pattern,
      fd_write_pattern := _,
      F_write_pattern := fun_mk (st := s_write_pattern) l_write_pattern cc_write_pattern k_write_pattern,
      b_write_pattern := (fun_mk (st := s_write_pattern) l_write_pattern cc_write_pattern k_write_pattern).binds (ps := ["pattern"]) fun _ _ _ _ _ _ us hl => match us, hl with | [_], _ => rfl,
      g_behind := PySem.W.mg_of X G ga_behind,
      f_behind := f_behind,
      fd_behind := _,
      F_behind := fun_mk (st := s_behind) l_behind cc_behind k_behind,
      b_behind := (fun_mk (st := s_behind) l_behind cc_behind k_behind).binds (ps := ["text", "at", "char"]) fun _ _ _ _ _ _ us hl => match us, hl with | [_, _, _], _ => rfl,
      g_signs_end := PySem.W.mg_of X G ga_signs_end,
      f_signs_end := f_signs_end,
      fd_signs_end := _,
      F_signs_end := fun_mk (st := s_signs_end) l_signs_end cc_signs_end k_signs_end,
      b_signs_end := (fun_mk (st := s_signs_end) l_signs_end cc_signs_end k_signs_end).binds (ps := ["text", "at"]) fun _ _ _ _ _ _ us hl => match us, hl with | [_, _], _ => rfl,
      g_ascending_end := PySem.W.mg_of X G ga_ascending_end,
      f_ascending_end := f_ascending_end,
      fd_ascending_end := _,
      F_ascending_end := fun_mk (st := s_ascending_end) l_ascending_end cc_ascending_end k_ascending_end,
      b_ascending_end := (fun_mk (st := s_ascending_end) l_ascending_end cc_ascending_end k_ascending_end).binds (ps := ["text", "at"]) fun _ _ _ _ _ _ us hl => match us, hl with | [_, _], _ => rfl,
      g_grouped := PySem.W.mg_of X G ga_grouped,
      f_grouped := f_grouped,
      fd_grouped := _,
      F_grouped := fun_mk (st := s_grouped) l_grouped cc_grouped k_grouped,
      b_grouped := (fun_mk (st := s_grouped) l_grouped cc_grouped k_grouped).binds (ps := ["kind", "parts"]) fun _ _ _ _ _ _ us hl => match us, hl with | [_, _], _ => rfl,
      g_base_at := PySem.W.mg_of X G ga_base_at,
      f_base_at := f_base_at,
      fd_base_at := _,
      F_base_at := fun_mk (st := s_base_at) l_base_at cc_base_at k_base_at,
      b_base_at := (fun_mk (st := s_base_at) l_base_at cc_base_at k_base_at).binds (ps := ["text", "at"]) fun _ _ _ _ _ _ us hl => match us, hl with | [_, _], _ => rfl,
      g_item_at := PySem.W.mg_of X G ga_item_at,
      f_item_at := f_item_at,
      fd_item_at := _,
      F_item_at := fun_mk (st := s_item_at) l_item_at cc_item_at k_item_at,
      b_item_at := (fun_mk (st := s_item_at) l_item_at cc_item_at k_item_at).binds (ps := ["text", "at"]) fun _ _ _ _ _ _ us hl => match us, hl with | [_, _], _ => rfl,
      g_chain_at := PySem.W.mg_of X G ga_chain_at,
      f_chain_at := f_chain_at,
      fd_chain_at := _,
      F_chain_at := fun_mk (st := s_chain_at) l_chain_at cc_chain_at k_chain_at,
      b_chain_at := (fun_mk (st := s_chain_at) l_chain_at cc_chain_at k_chain_at).binds (ps := ["text", "at"]) fun _ _ _ _ _ _ us hl => match us, hl with | [_, _], _ => rfl,
      g_pattern_at := PySem.W.mg_of X G ga_pattern_at,
      f_pattern_at := f_pattern_at,
      fd_pattern_at := _,
      F_pattern_at := fun_mk (st := s_pattern_at) l_pattern_at cc_pattern_at k_pattern_at,
      b_pattern_at := (fun_mk (st := s_pattern_at) l_pattern_at cc_pattern_at k_pattern_at).binds (ps := ["text", "at"]) fun _ _ _ _ _ _ us hl => match us, hl with | [_, _], _ => rfl,
      g_write_lens := PySem.W.mg_of X G ga_write_lens,
      f_write_lens := f_write_lens,
      fd_write_lens := _,
      F_write_lens := fun_mk (st := s_write_lens) l_write_lens cc_write_lens k_write_lens,
      b_write_lens := (fun_mk (st := s_write_lens) l_write_lens cc_write_lens k_write_lens).binds (ps := ["tree"]) fun _ _ _ _ _ _ us hl => match us, hl with | [_], _ => rfl,
      g_shared_size := PySem.W.mg_of X G ga_shared_size,
      f_shared_size := f_shared_size,
      fd_shared_size := _,
      F_shared_size := fun_mk (st := s_shared_size) l_shared_size cc_shared_size k_shared_size,
      b_shared_size := (fun_mk (st := s_shared_size) l_shared_size cc_shared_size k_shared_size).binds (ps := ["text", "at", "word"]) fun _ _ _ _ _ _ us hl => match us, hl with | [_, _, _], _ => rfl,
      g_opener_at := PySem.W.mg_of X G ga_opener_at,
      f_opener_at := f_opener_at,
      fd_opener_at := _,
      F_opener_at := fun_mk (st := s_opener_at) l_opener_at cc_opener_at k_opener_at,
      b_opener_at := (fun_mk (st := s_opener_at) l_opener_at cc_opener_at k_opener_at).binds (ps := ["text", "at"]) fun _ _ _ _ _ _ us hl => match us, hl with | [_, _], _ => rfl,
      g_renaming_end := PySem.W.mg_of X G ga_renaming_end,
      f_renaming_end := f_renaming_end,
      fd_renaming_end := _,
      F_renaming_end := fun_mk (st := s_renaming_end) l_renaming_end cc_renaming_end k_renaming_end,
      b_renaming_end := (fun_mk (st := s_renaming_end) l_renaming_end cc_renaming_end k_renaming_end).binds (ps := ["text", "at"]) fun _ _ _ _ _ _ us hl => match us, hl with | [_, _], _ => rfl,
      g_leaf_at := PySem.W.mg_of X G ga_leaf_at,
      f_leaf_at := f_leaf_at,
      fd_leaf_at := _,
      F_leaf_at := fun_mk (st := s_leaf_at) l_leaf_at cc_leaf_at k_leaf_at,
      b_leaf_at := (fun_mk (st := s_leaf_at) l_leaf_at cc_leaf_at k_leaf_at).binds (ps := ["text", "at", "shape"]) fun _ _ _ _ _ _ us hl => match us, hl with | [_, _, _], _ => rfl,
      g_lens_at := PySem.W.mg_of X G ga_lens_at,
      f_lens_at := f_lens_at,
      fd_lens_at := _,
      F_lens_at := fun_mk (st := s_lens_at) l_lens_at cc_lens_at k_lens_at,
      b_lens_at := (fun_mk (st := s_lens_at) l_lens_at cc_lens_at k_lens_at).binds (ps := ["text", "at"]) fun _ _ _ _ _ _ us hl => match us, hl with | [_, _], _ => rfl,
      g_read_lens := PySem.W.mg_of X G ga_read_lens,
      f_read_lens := f_read_lens,
      fd_read_lens := _,
      F_read_lens := fun_mk (st := s_read_lens) l_read_lens cc_read_lens k_read_lens,
      b_read_lens := (fun_mk (st := s_read_lens) l_read_lens cc_read_lens k_read_lens).binds (ps := ["text"]) fun _ _ _ _ _ _ us hl => match us, hl with | [_], _ => rfl,
      g__law_mix := PySem.W.mg_of X G ga__law_mix,
      f__law_mix := f__law_mix,
      fd__law_mix := _,
      F__law_mix := fun_mk (st := s__law_mix) l__law_mix cc__law_mix k__law_mix,
      b__law_mix := (fun_mk (st := s__law_mix) l__law_mix cc__law_mix k__law_mix).binds (ps := ["cell", "k"]) fun _ _ _ _ _ _ us hl => match us, hl with | [_, _], _ => rfl,
      g__law_stream := PySem.W.mg_of X G ga__law_stream,
      f__law_stream := f__law_stream,
      fd__law_stream := _,
      F__law_stream := fun_mk (st := s__law_stream) l__law_stream cc__law_stream k__law_stream,
      b__law_stream := (fun_mk (st := s__law_stream) l__law_stream cc__law_stream k__law_stream).binds (ps := ["script", "many"]) fun _ _ _ _ _ _ us hl => match us, hl with | [_, _], _ => rfl,
      g__law_pick := PySem.W.mg_of X G ga__law_pick,
      f__law_pick := f__law_pick,
      fd__law_pick := _,
      F__law_pick := fun_mk (st := s__law_pick) l__law_pick cc__law_pick k__law_pick,
      b__law_pick := (fun_mk (st := s__law_pick) l__law_pick cc__law_pick k__law_pick).binds (ps := ["numbers", "at", "many"]) fun _ _ _ _ _ _ us hl => match us, hl with | [_, _, _], _ => rfl,
      g__law_kind := PySem.W.mg_of X G ga__law_kind,
      f__law_kind := f__law_kind,
      fd__law_kind := _,
      F__law_kind := fun_mk (st := s__law_kind) l__law_kind cc__law_kind k__law_kind,
      b__law_kind := (fun_mk (st := s__law_kind) l__law_kind cc__law_kind k__law_kind).binds (ps := ["value"]) fun _ _ _ _ _ _ us hl => match us, hl with | [_], _ => rfl,
      g__law_same := PySem.W.mg_of X G ga__law_same,
      f__law_same := f__law_same,
      fd__law_same := _,
      F__law_same := fun_mk (st := s__law_same) l__law_same cc__law_same k__law_same,
      b__law_same := (fun_mk (st := s__law_same) l__law_same cc__law_same k__law_same).binds (ps := ["answer", "due"]) fun _ _ _ _ _ _ us hl => match us, hl with | [_, _], _ => rfl,
      g__law_signs := PySem.W.mg_of X G ga__law_signs,
      f__law_signs := f__law_signs,
      fd__law_signs := _,
      F__law_signs := fun_mk (st := s__law_signs) l__law_signs cc__law_signs k__law_signs,
      b__law_signs := (fun_mk (st := s__law_signs) l__law_signs cc__law_signs k__law_signs).binds (ps := ["number"]) fun _ _ _ _ _ _ us hl => match us, hl with | [_], _ => rfl,
      g__law_word := PySem.W.mg_of X G ga__law_word,
      f__law_word := f__law_word,
      fd__law_word := _,
      F__law_word := fun_mk (st := s__law_word) l__law_word cc__law_word k__law_word,
      b__law_word := (fun_mk (st := s__law_word) l__law_word cc__law_word k__law_word).binds (ps := ["numbers", "at"]) fun _ _ _ _ _ _ us hl => match us, hl with | [_, _], _ => rfl,
      g__law_renaming := PySem.W.mg_of X G ga__law_renaming,
      f__law_renaming := f__law_renaming,
      fd__law_renaming := _,
      F__law_renaming := fun_mk (st := s__law_renaming) l__law_renaming cc__law_renaming k__law_renaming,
      b__law_renaming := (fun_mk (st := s__law_renaming) l__law_renaming cc__law_renaming k__law_renaming).binds (ps := ["numbers", "at"]) fun _ _ _ _ _ _ us hl => match us, hl with | [_, _], _ => rfl,
      g__law_pattern := PySem.W.mg_of X G ga__law_pattern,
      f__law_pattern := f__law_pattern,
      fd__law_pattern := _,
      F__law_pattern := fun_mk (st := s__law_pattern) l__law_pattern cc__law_pattern k__law_pattern,
      b__law_pattern := (fun_mk (st := s__law_pattern) l__law_pattern cc__law_pattern k__law_pattern).binds (ps := ["numbers", "at", "depth"]) fun _ _ _ _ _ _ us hl => match us, hl with | [_, _, _], _ => rfl,
      g__law_tree := PySem.W.mg_of X G ga__law_tree,
      f__law_tree := f__law_tree,
      fd__law_tree := _,
      F__law_tree := fun_mk (st := s__law_tree) l__law_tree cc__law_tree k__law_tree,
      b__law_tree := (fun_mk (st := s__law_tree) l__law_tree cc__law_tree k__law_tree).binds (ps := ["numbers", "node", "depth"]) fun _ _ _ _ _ _ us hl => match us, hl with | [_, _, _], _ => rfl,
      g__law_wrapped := PySem.W.mg_of X G ga__law_wrapped,
      f__law_wrapped := f__law_wrapped,
      fd__law_wrapped := _,
      F__law_wrapped := fun_mk (st := s__law_wrapped) l__law_wrapped cc__law_wrapped k__law_wrapped,
      b__law_wrapped := (fun_mk (st := s__law_wrapped) l__law_wrapped cc__law_wrapped k__law_wrapped).binds (ps := ["tree", "numbers", "at"]) fun _ _ _ _ _ _ us hl => match us, hl with | [_, _, _], _ => rfl,
      g__law_pattern_text := PySem.W.mg_of X G ga__law_pattern_text,
      f__law_pattern_text := f__law_pattern_text,
      fd__law_pattern_text := _,
      F__law_pattern_text := fun_mk (st := s__law_pattern_text) l__law_pattern_text cc__law_pattern_text k__law_pattern_text,
      b__law_pattern_text := (fun_mk (st := s__law_pattern_text) l__law_pattern_text cc__law_pattern_text k__law_pattern_text).binds (ps := ["pattern", "outside", "numbers", "at"]) fun _ _ _ _ _ _ us hl => match us, hl with | [_, _, _, _], _ => rfl,
      g__law_lens_text := PySem.W.mg_of X G ga__law_lens_text,
      f__law_lens_text := f__law_lens_text,
      fd__law_lens_text := _,
      F__law_lens_text := fun_mk (st := s__law_lens_text) l__law_lens_text cc__law_lens_text k__law_lens_text,
      b__law_lens_text := (fun_mk (st := s__law_lens_text) l__law_lens_text cc__law_lens_text k__law_lens_text).binds (ps := ["tree", "numbers", "at"]) fun _ _ _ _ _ _ us hl => match us, hl with | [_, _, _], _ => rfl,
      g__law_folded := PySem.W.mg_of X G ga__law_folded,
      f__law_folded := f__law_folded,
      fd__law_folded := _,
      F__law_folded := fun_mk (st := s__law_folded) l__law_folded cc__law_folded k__law_folded,
      b__law_folded := (fun_mk (st := s__law_folded) l__law_folded cc__law_folded k__law_folded).binds (ps := ["kind", "parts"]) fun _ _ _ _ _ _ us hl => match us, hl with | [_, _], _ => rfl,
      g__law_end := PySem.W.mg_of X G ga__law_end,
      f__law_end := f__law_end,
      fd__law_end := _,
      F__law_end := fun_mk (st := s__law_end) l__law_end cc__law_end k__law_end,
      b__law_end := (fun_mk (st := s__law_end) l__law_end cc__law_end k__law_end).binds (ps := ["text", "at", "ascending"]) fun _ _ _ _ _ _ us hl => match us, hl with | [_, _, _], _ => rfl,
      g__law_read_item := PySem.W.mg_of X G ga__law_read_item,
      f__law_read_item := f__law_read_item,
      fd__law_read_item := _,
      F__law_read_item := fun_mk (st := s__law_read_item) l__law_read_item cc__law_read_item k__law_read_item,
      b__law_read_item := (fun_mk (st := s__law_read_item) l__law_read_item cc__law_read_item k__law_read_item).binds (ps := ["text", "at"]) fun _ _ _ _ _ _ us hl => match us, hl with | [_, _], _ => rfl,
      g__law_read_pattern := PySem.W.mg_of X G ga__law_read_pattern,
      f__law_read_pattern := f__law_read_pattern,
      fd__law_read_pattern := _,
      F__law_read_pattern := fun_mk (st := s__law_read_pattern) l__law_read_pattern cc__law_read_pattern k__law_read_pattern,
      b__law_read_pattern := (fun_mk (st := s__law_read_pattern) l__law_read_pattern cc__law_read_pattern k__law_read_pattern).binds (ps := ["text", "at"]) fun _ _ _ _ _ _ us hl => match us, hl with | [_, _], _ => rfl,
      g__law_read_leaf := PySem.W.mg_of X G ga__law_read_leaf,
      f__law_read_leaf := f__law_read_leaf,
      fd__law_read_leaf := _,
      F__law_read_leaf := fun_mk (st := s__law_read_leaf) l__law_read_leaf cc__law_read_leaf k__law_read_leaf,
      b__law_read_leaf := (fun_mk (st := s__law_read_leaf) l__law_read_leaf cc__law_read_leaf k__law_read_leaf).binds (ps := ["shape", "text", "at"]) fun _ _ _ _ _ _ us hl => match us, hl with | [_, _, _], _ => rfl,
      g__law_read_lens := PySem.W.mg_of X G ga__law_read_lens,
      f__law_read_lens := f__law_read_lens,
      fd__law_read_lens := _,
      F__law_read_lens := fun_mk (st := s__law_read_lens) l__law_read_lens cc__law_read_lens k__law_read_lens,
      b__law_read_lens := (fun_mk (st := s__law_read_lens) l__law_read_lens cc__law_read_lens k__law_read_lens).binds (ps := ["text", "at"]) fun _ _ _ _ _ _ us hl => match us, hl with | [_, _], _ => rfl,
      g__law_read := PySem.W.mg_of X G ga__law_read,
      f__law_read := f__law_read,
      fd__law_read := _,
      F__law_read := fun_mk (st := s__law_read) l__law_read cc__law_read k__law_read,
      b__law_read := (fun_mk (st := s__law_read) l__law_read cc__law_read k__law_read).binds (ps := ["text"]) fun _ _ _ _ _ _ us hl => match us, hl with | [_], _ => rfl,
      g__law_spoilt := PySem.W.mg_of X G ga__law_spoilt,
      f__law_spoilt := f__law_spoilt,
      fd__law_spoilt := _,
      F__law_spoilt := fun_mk (st := s__law_spoilt) l__law_spoilt cc__law_spoilt k__law_spoilt,
      b__law_spoilt := (fun_mk (st := s__law_spoilt) l__law_spoilt cc__law_spoilt k__law_spoilt).binds (ps := ["text", "numbers", "first"]) fun _ _ _ _ _ _ us hl => match us, hl with | [_, _, _], _ => rfl,
      g__law_written_otherwise := PySem.W.mg_of X G ga__law_written_otherwise,
      f__law_written_otherwise := f__law_written_otherwise,
      fd__law_written_otherwise := _,
      F__law_written_otherwise := fun_mk (st := s__law_written_otherwise) l__law_written_otherwise cc__law_written_otherwise k__law_written_otherwise,
      b__law_written_otherwise := (fun_mk (st := s__law_written_otherwise) l__law_written_otherwise cc__law_written_otherwise k__law_written_otherwise).binds (ps := ["numbers", "at"]) fun _ _ _ _ _ _ us hl => match us, hl with | [_, _], _ => rfl,
      g__law_reads_right := PySem.W.mg_of X G ga__law_reads_right,
      f__law_reads_right := f__law_reads_right,
      fd__law_reads_right := _,
      F__law_reads_right := fun_mk (st := s__law_reads_right) l__law_reads_right cc__law_reads_right k__law_reads_right,
      b__law_reads_right := (fun_mk (st := s__law_reads_right) l__law_reads_right cc__law_reads_right k__law_reads_right).binds (ps := ["text"]) fun _ _ _ _ _ _ us hl => match us, hl with | [_], _ => rfl,
      g_law := PySem.W.mg_of X G ga_law,
      f_law := f_law,
      fd_law := _,
      F_law := fun_mk (st := s_law) l_law cc_law k_law,
      b_law := (fun_mk (st := s_law) l_law cc_law k_law).binds (ps := ["script"]) fun _ _ _ _ _ _ us hl => match us, hl with | [_], _ => rfl,
      bt_law := fun s v => .of_eq rfl,
      z_abs := PySem.W.mg_none_of X G zz_abs,
      z_bool := PySem.W.mg_none_of X G zz_bool,
      z_int := PySem.W.mg_none_of X G zz_int,
      z_isinstance := PySem.W.mg_none_of X G zz_isinstance,
      z_len := PySem.W.mg_none_of X G zz_len,
      z_list := PySem.W.mg_none_of X G zz_list,
      z_max := PySem.W.mg_none_of X G zz_max,
      z_min := PySem.W.mg_none_of X G zz_min,
      z_range := PySem.W.mg_none_of X G zz_range,
      z_reversed := PySem.W.mg_none_of X G zz_reversed,
      z_str := PySem.W.mg_none_of X G zz_str,
      z_tuple := PySem.W.mg_none_of X G zz_tuple,
      a_PLACES := a_PLACES,
      g_PLACES := PySem.W.mg_of X G ga_PLACES,
      kd_PLACES := Gx.kiv_of dw_PLACES di_PLACES,
      a_LEAVES := a_LEAVES,
      g_LEAVES := PySem.W.mg_of X G ga_LEAVES,
      kt_LEAVES := Gx.kts_of kty_LEAVES kts_LEAVES,
      a_OPENERS := a_OPENERS,
      g_OPENERS := PySem.W.mg_of X G ga_OPENERS,
      kt_OPENERS := Gx.kts_of kty_OPENERS kts_OPENERS,
      ki_tm := ki_tm,
      ki_nis := ki_nis,
      ki_niv := ki_niv,
      ki_ns := ki_ns,
      ki_le := ki_le,
      em_bt := em_bt }, rfl⟩
end K13
namespace K13
open PySem PySem.Spec PyProof.Rows L2
local macro_rules | `(tactic| walk_at "con") => `(tactic| first | with_reducible refine Gx.conE K13.ks0 ?_ | with_reducible refine Gx.conE K13.ks1 ?_ | with_reducible refine Gx.conE K13.ks2 ?_ | with_reducible refine Gx.conE K13.ks3 ?_ | with_reducible refine Gx.conE K13.ks4 ?_ | with_reducible refine Gx.conE K13.ks5 ?_ | with_reducible refine Gx.conE K13.ks6 ?_ | with_reducible refine Gx.conE K13.ks7 ?_ | with_reducible refine Gx.conE K13.ks8 ?_ | with_reducible refine Gx.conE K13.ks9 ?_ | with_reducible refine Gx.conE K13.ks10 ?_ | with_reducible refine Gx.conE K13.ks11 ?_ | with_reducible refine Gx.conE K13.ks12 ?_ | with_reducible refine Gx.conE K13.ks13 ?_ | with_reducible refine Gx.conE K13.ks14 ?_ | with_reducible refine Gx.conE K13.ks15 ?_ | with_reducible refine Gx.conE K13.ks16 ?_ | with_reducible refine Gx.conE K13.ks17 ?_ | with_reducible refine Gx.conE K13.ks18 ?_ | with_reducible refine Gx.conE K13.ks19 ?_ | with_reducible refine Gx.conE K13.ks20 ?_ | with_reducible refine Gx.conE K13.ks21 ?_ | with_reducible refine Gx.conE K13.ks22 ?_ | with_reducible refine Gx.conE K13.ks23 ?_ | with_reducible refine Gx.conE K13.ks24 ?_ | with_reducible refine Gx.conE K13.ks25 ?_ | with_reducible refine Gx.conE K13.ks26 ?_ | with_reducible refine Gx.conE K13.ks27 ?_ | with_reducible refine Gx.conE K13.ks28 ?_ | with_reducible refine Gx.conE K13.ks29 ?_ | with_reducible refine Gx.conE K13.ks30 ?_ | with_reducible refine Gx.conE K13.ks31 ?_ | with_reducible refine Gx.conE K13.ks32 ?_ | with_reducible refine Gx.conE K13.ks33 ?_ | with_reducible refine Gx.conE K13.ks34 ?_ | with_reducible refine Gx.conE K13.ks35 ?_ | with_reducible refine Gx.conE K13.ks36 ?_ | with_reducible refine Gx.conE K13.ks37 ?_ | with_reducible refine Gx.conE K13.ks38 ?_ | with_reducible refine Gx.conE K13.ks39 ?_ | with_reducible refine Gx.conE K13.ks40 ?_ | with_reducible refine Gx.conE K13.ks41 ?_ | with_reducible refine Gx.conE K13.ks42 ?_ | with_reducible refine Gx.conE K13.ks43 ?_ | with_reducible refine Gx.conE K13.ks44 ?_ | with_reducible refine Gx.conE K13.ks45 ?_ | with_reducible refine Gx.conE K13.ks46 ?_ | with_reducible refine Gx.conE K13.ks47 ?_ | with_reducible refine Gx.conE K13.ks48 ?_ | with_reducible refine Gx.conE K13.ks49 ?_ | with_reducible refine Gx.conE K13.ks50 ?_ | with_reducible refine Gx.conE K13.ks51 ?_ | with_reducible refine Gx.conE K13.ks52 ?_ | with_reducible refine Gx.conE K13.ks53 ?_ | with_reducible refine Gx.conE K13.ks54 ?_ | with_reducible refine Gx.conE K13.ks55 ?_ | with_reducible refine Gx.conE K13.ks56 ?_ | with_reducible refine Gx.conE K13.ks57 ?_ | with_reducible refine Gx.conE K13.ks58 ?_ | with_reducible refine Gx.conE K13.ks59 ?_ | with_reducible refine Gx.conE K13.ks60 ?_ | with_reducible refine Gx.conE K13.ks61 ?_ | with_reducible refine Gx.conE K13.ks62 ?_ | with_reducible refine Gx.conE K13.ks63 ?_)
section
variable {P : Program} {w : World} {K : PySem.W.Frag} {mg : Str → Option Value} {base : Heap}
/-! ### patterns and their texts -/
def sgs : List Nat := [58, 59, 97, 98, 99]
def Sg (l : List Nat) : Prop := ∀ c ∈ l, c ∈ sgs
inductive Pat where
  | word (l : List Nat)
  | one (l : List Nat)
  | star (p : Pat)
  | two (b : Bool) (p q : Pat)
def wordS : List Nat := [119, 111, 114, 100]
def oneS : List Nat := [111, 110, 101]
def starS : List Nat := [115, 116, 97, 114]
def seqS : List Nat := [115, 101, 113]
def altS : List Nat := [97, 108, 116]
def kindS (b : Bool) : List Nat := if b = true then seqS else altS
def patD : Pat → PyData
  | .word l => .tuple [.str (Gx.mkS wordS), .str (Gx.mkS l)]
  | .one l => .tuple [.str (Gx.mkS oneS), .str (Gx.mkS l)]
  | .star p => .tuple [.str (Gx.mkS starS), patD p]
  | .two b p q => .tuple [.str (Gx.mkS (kindS b)), patD p, patD q]
def Pat.depth : Pat → Nat
  | .word _ => 1
  | .one _ => 1
  | .star p => p.depth + 1
  | .two _ p q => max p.depth q.depth + 1
/-- leaves and stars -/
def Pat.wt : Pat → Nat
  | .word _ => 1
  | .one _ => 1
  | .star p => p.wt + 1
  | .two _ p q => p.wt + q.wt
theorem Pat.wt_pos : ∀ p : Pat, 1 ≤ p.wt
  | .word _ => Nat.le_refl _
  | .one _ => Nat.le_refl _
  | .star p => by unfold Pat.wt; omega
  | .two _ p q => by have := Pat.wt_pos p; unfold Pat.wt; omega
theorem Pat.depth_wt : ∀ p : Pat, p.depth ≤ p.wt
  | .word _ => Nat.le_refl _
  | .one _ => Nat.le_refl _
  | .star p => by have := Pat.depth_wt p; unfold Pat.wt Pat.depth; omega
  | .two _ p q => by
    have h1 := Pat.depth_wt p
    have h2 := Pat.depth_wt q
    have h3 := Pat.wt_pos p
    have h4 := Pat.wt_pos q
    unfold Pat.wt Pat.depth
    omega
theorem Pat.depD : ∀ p : Pat, PyData.depth (patD p) = p.depth
  | .word l => by simp [patD, PyData.depth, PyData.depthAll, Pat.depth]
  | .one l => by simp [patD, PyData.depth, PyData.depthAll, Pat.depth]
  | .star p => by
    have := Pat.depD p
    simp only [patD, PyData.depth, PyData.depthAll, Pat.depth]
    omega
  | .two b p q => by
    have h1 := Pat.depD p
    have h2 := Pat.depD q
    simp only [patD, PyData.depth, PyData.depthAll, Pat.depth]
    omega
/-- all texts within are texts of signs -/
def Pat.sg : Pat → Prop
  | .word l => Sg l
  | .one l => Sg l
  | .star p => p.sg
  | .two _ p q => p.sg ∧ q.sg
theorem Sg.ok {l : List Nat} (h : Sg l) : PyData.strOk (Gx.mkS l) = true := by
  have : Gx.Cp l := fun c hc => by
    have := h c hc
    unfold sgs at this
    simp only [List.mem_cons, List.not_mem_nil, or_false] at this
    omega
  exact this.ok
theorem kind_ok (b : Bool) : PyData.strOk (Gx.mkS (kindS b)) = true := by cases b <;> decide +kernel
theorem Pat.canD : ∀ p : Pat, p.sg → PyData.canLay0 (patD p) = true
  | .word l, h => by
    have h1 : PyData.strOk (Gx.mkS wordS) = true := by decide +kernel
    have h2 := Sg.ok h
    simp [patD, PyData.canLay0, PyData.canLayAll0, h1, h2]
  | .one l, h => by
    have h1 : PyData.strOk (Gx.mkS oneS) = true := by decide +kernel
    have h2 := Sg.ok h
    simp [patD, PyData.canLay0, PyData.canLayAll0, h1, h2]
  | .star p, h => by
    have h1 : PyData.strOk (Gx.mkS starS) = true := by decide +kernel
    have h2 := Pat.canD p h
    simp [patD, PyData.canLay0, PyData.canLayAll0, h1, h2]
  | .two b p q, h => by
    have h1 := kind_ok b
    have h2 := Pat.canD p h.1
    have h3 := Pat.canD q h.2
    simp [patD, PyData.canLay0, PyData.canLayAll0, h1, h2, h3]
theorem Pat.shaped {p : Pat} (h : p.sg) (d : p.wt ≤ 64) : SeqAt.shaped (patD p) = true := by
  unfold SeqAt.shaped
  rw [Pat.canD p h, Bool.true_and]
  refine decide_eq_true ?_
  rw [Pat.depD]
  have := Pat.depth_wt p
  omega
theorem noL_pat : ∀ p : Pat, Gx.noL (patD p) = true
  | .word l => rfl
  | .one l => rfl
  | .star p => by simp only [patD, Gx.noL, Gx.noLs, noL_pat p, Bool.and_self]
  | .two b p q => by simp only [patD, Gx.noL, Gx.noLs, noL_pat p, noL_pat q, Bool.and_self]
theorem noLs_pats : ∀ ps : List Pat, Gx.noLs (ps.map patD) = true
  | [] => rfl
  | p :: ps => by rw [List.map_cons, Gx.noLs, noL_pat, noLs_pats ps]; rfl
theorem noL_pats (ps : List Pat) : Gx.noL (.tuple (ps.map patD)) = true := by rw [Gx.noL]; exact noLs_pats ps
/-! ### the reader -/
inductive Rs (α : Type) where
  | ok (a : α) (r : List Nat)
  | bad (r : List Nat)
def spanS : List Nat → List Nat × List Nat
  | [] => ([], [])
  | c :: r => if c ∈ sgs then (c :: (spanS r).1, (spanS r).2) else ([], c :: r)
def spanA : Nat → List Nat → List Nat × List Nat
  | _, [] => ([], [])
  | x, c :: r => if c ∈ sgs ∧ x < c then (c :: (spanA c r).1, (spanA c r).2) else ([], c :: r)
/-- right-nested -/
def fold (b : Bool) : List Pat → Pat
  | [] => .word []
  | [p] => p
  | p :: q :: r => .two b p (fold b (q :: r))
def leafOf (sq : Bool) (r : List Nat) : Rs Pat :=
  if sq = false then (match (spanS r).2 with | 62 :: t => .ok (.word (spanS r).1) t | t => .bad t)
  else if (spanA 0 r).1 = [] then .bad (spanA 0 r).2 else (match (spanA 0 r).2 with | 93 :: t => .ok (.one (spanA 0 r).1) t | t => .bad t)
def closeOf : Rs Pat → Rs Pat
  | .ok p t => (match t with | 41 :: t' => .ok p t' | t => .bad t)
  | .bad t => .bad t
def baseOf (inn : List Nat → Rs Pat) (s : List Nat) : Rs Pat := match s with
  | 60 :: r => leafOf false r
  | 91 :: r => leafOf true r
  | 40 :: r => closeOf (inn r)
  | s => .bad s
def stars (p : Pat) : List Nat → Pat × List Nat
  | 42 :: r => stars (.star p) r
  | s => (p, s)
def itemOf (inn : List Nat → Rs Pat) (s : List Nat) : Rs Pat := match baseOf inn s with
  | .ok p r => .ok (stars p r).1 (stars p r).2
  | .bad r => .bad r
def starts (s : List Nat) : Bool := match s with
  | c :: _ => c == 60 || c == 91 || c == 40
  | [] => false
def chainOf (inn : List Nat → Rs Pat) : Nat → List Pat → List Nat → Rs (List Pat)
  | 0, ps, s => .ok ps s
  | m + 1, ps, s => if starts s = true then (match itemOf inn s with | .ok p r => chainOf inn m (ps ++ [p]) r | .bad r => .bad r) else .ok ps s
def chainT (inn : List Nat → Rs Pat) (s : List Nat) : Rs Pat := match itemOf inn s with
  | .ok p r => (match chainOf inn r.length [p] r with | .ok ps t => .ok (fold true ps) t | .bad t => .bad t)
  | .bad r => .bad r
def altOf (inn : List Nat → Rs Pat) : Nat → List Pat → List Nat → Rs (List Pat)
  | 0, ps, s => .ok ps s
  | m + 1, ps, s => match s with
    | 124 :: t => (match chainT inn t with | .ok p r => altOf inn m (ps ++ [p]) r | .bad r => .bad r)
    | s => .ok ps s
def patT (inn : List Nat → Rs Pat) (s : List Nat) : Rs Pat := match chainT inn s with
  | .ok p r => (match altOf inn r.length [p] r with | .ok ps t => .ok (fold false ps) t | .bad t => .bad t)
  | .bad r => .bad r
/-- what stands in brackets at the depth n -/
def inn : Nat → List Nat → Rs Pat
  | 0 => fun s => .bad s
  | n + 1 => patT (inn n)
def Suf (r s : List Nat) : Prop := ∃ t, s = t ++ r
theorem Suf.refl (s : List Nat) : Suf s s := ⟨[], rfl⟩
theorem Suf.trans {a b c : List Nat} (h : Suf a b) (g : Suf b c) : Suf a c := by
  obtain ⟨t, rfl⟩ := h
  obtain ⟨u, rfl⟩ := g
  exact ⟨u ++ t, by rw [List.append_assoc]⟩
theorem Suf.cons {r s : List Nat} {c : Nat} (h : Suf r s) : Suf r (c :: s) := by
  obtain ⟨t, rfl⟩ := h
  exact ⟨c :: t, rfl⟩
theorem Suf.len {r s : List Nat} (h : Suf r s) : r.length ≤ s.length := by
  obtain ⟨t, rfl⟩ := h
  rw [List.length_append]
  omega
theorem Suf.drop {r l : List Nat} (h : Suf r l) : l.drop (l.length - r.length) = r := by
  obtain ⟨t, rfl⟩ := h
  rw [List.length_append, show t.length + r.length - r.length = t.length by omega, List.drop_left]
theorem spanS_suf : ∀ s : List Nat, s = (spanS s).1 ++ (spanS s).2
  | [] => rfl
  | c :: r => by
    rw [spanS]
    split
    · rw [List.cons_append, ← spanS_suf r]
    · rfl
theorem spanA_suf : ∀ (s : List Nat) (x : Nat), s = (spanA x s).1 ++ (spanA x s).2
  | [], _ => rfl
  | c :: r, x => by
    rw [spanA]
    split
    · rw [List.cons_append, ← spanA_suf r c]
    · rfl
/-- what a result leaves is the end of what was read -/
def Rs.Suf {α : Type} (x : Rs α) (s : List Nat) : Prop := match x with
  | .ok _ r => K13.Suf r s
  | .bad r => K13.Suf r s
/-- something was read -/
def Rs.Lt {α : Type} (x : Rs α) (s : List Nat) : Prop := match x with
  | .ok _ r => r.length < s.length
  | .bad _ => True
theorem leafOf_suf (sq : Bool) (r : List Nat) : (leafOf sq r).Suf r := by
  unfold leafOf
  split
  · have h : K13.Suf (spanS r).2 r := ⟨_, spanS_suf r⟩
    split
    · rename_i t e
      rw [e] at h
      exact Suf.trans ⟨[62], rfl⟩ h
    · exact h
  · have h : K13.Suf (spanA 0 r).2 r := ⟨_, spanA_suf r 0⟩
    split
    · exact h
    · split
      · rename_i t e
        rw [e] at h
        exact Suf.trans ⟨[93], rfl⟩ h
      · exact h
theorem closeOf_41 (p : Pat) (t : List Nat) : closeOf (.ok p (41 :: t)) = .ok p t := rfl
theorem closeOf_nil (p : Pat) : closeOf (.ok p []) = .bad [] := rfl
theorem closeOf_ne {p : Pat} {c : Nat} {t : List Nat} (h : c ≠ 41) : closeOf (.ok p (c :: t)) = .bad (c :: t) := by
  unfold closeOf
  dsimp only
  split
  · rename_i e
    injection e with e _
    exact absurd e h
  · rfl
theorem closeOf_suf {x : Rs Pat} {r : List Nat} (h : x.Suf r) : (closeOf x).Suf r := by
  cases x with
  | bad t => exact h
  | ok p t =>
    cases t with
    | nil => exact h
    | cons c t =>
      by_cases e : c = 41
      · subst e
        exact Suf.trans ⟨[41], rfl⟩ h
      · rw [closeOf_ne e]
        exact h
section
variable {I : List Nat → Rs Pat} (hI : ∀ s, (I s).Suf s)
include hI
theorem baseOf_suf (s : List Nat) : (baseOf I s).Suf s ∧ (baseOf I s).Lt s := by
  have aux : ∀ (x : Rs Pat) (c : Nat) (r : List Nat), x.Suf r → x.Suf (c :: r) ∧ x.Lt (c :: r) := fun x c r h => by
    cases x with
    | ok p t => exact ⟨Suf.cons h, by have := Suf.len h; show t.length < r.length + 1; omega⟩
    | bad t => exact ⟨Suf.cons h, trivial⟩
  unfold baseOf
  split
  · exact aux _ _ _ (leafOf_suf _ _)
  · exact aux _ _ _ (leafOf_suf _ _)
  · exact aux _ _ _ (closeOf_suf (hI _))
  · exact ⟨Suf.refl _, trivial⟩
omit hI in
theorem stars_suf : ∀ (s : List Nat) (p : Pat), K13.Suf (stars p s).2 s
  | [], p => by unfold stars; exact Suf.refl _
  | c :: s, p => by
    unfold stars
    split
    · rename_i r e
      cases e
      exact Suf.cons (stars_suf _ _)
    · exact Suf.refl _
theorem itemOf_suf (s : List Nat) : (itemOf I s).Suf s ∧ (itemOf I s).Lt s := by
  have h := baseOf_suf hI s
  unfold itemOf
  cases e : baseOf I s with
  | bad r => rw [e] at h; exact h
  | ok p r =>
    rw [e] at h
    have h2 := stars_suf r p
    have h3 := h2.len
    have h4 : r.length < s.length := h.2
    exact ⟨Suf.trans h2 h.1, by show (stars p r).2.length < s.length; omega⟩
theorem chainOf_suf : ∀ (m : Nat) (ps : List Pat) (s : List Nat), (chainOf I m ps s).Suf s
  | 0, ps, s => Suf.refl _
  | m + 1, ps, s => by
    unfold chainOf
    split
    · have h := itemOf_suf hI s
      cases e : itemOf I s with
      | bad r => rw [e] at h; exact h.1
      | ok p r =>
        rw [e] at h
        have h2 := chainOf_suf m (ps ++ [p]) r
        dsimp only
        cases e2 : chainOf I m (ps ++ [p]) r with
        | bad t => rw [e2] at h2; exact Suf.trans h2 h.1
        | ok q t => rw [e2] at h2; exact Suf.trans h2 h.1
    · exact Suf.refl _
theorem chainT_suf (s : List Nat) : (chainT I s).Suf s ∧ (chainT I s).Lt s := by
  have h := itemOf_suf hI s
  unfold chainT
  cases e : itemOf I s with
  | bad r => rw [e] at h; exact h
  | ok p r =>
    rw [e] at h
    have h2 := chainOf_suf hI r.length [p] r
    dsimp only
    cases e2 : chainOf I r.length [p] r with
    | bad t => rw [e2] at h2; exact ⟨Suf.trans h2 h.1, trivial⟩
    | ok q t =>
      rw [e2] at h2
      have h3 := Suf.len h2
      have h4 : r.length < s.length := h.2
      exact ⟨Suf.trans h2 h.1, by show t.length < s.length; omega⟩
theorem altOf_suf : ∀ (m : Nat) (ps : List Pat) (s : List Nat), (altOf I m ps s).Suf s
  | 0, ps, s => Suf.refl _
  | m + 1, ps, s => by
    unfold altOf
    split
    · rename_i t
      have h := chainT_suf hI t
      cases e : chainT I t with
      | bad r => rw [e] at h; exact Suf.cons h.1
      | ok p r =>
        rw [e] at h
        have h2 := altOf_suf m (ps ++ [p]) r
        dsimp only
        cases e2 : altOf I m (ps ++ [p]) r with
        | bad t => rw [e2] at h2; exact Suf.cons (Suf.trans h2 h.1)
        | ok q t => rw [e2] at h2; exact Suf.cons (Suf.trans h2 h.1)
    · exact Suf.refl _
theorem patT_suf (s : List Nat) : (patT I s).Suf s := by
  have h := chainT_suf hI s
  unfold patT
  cases e : chainT I s with
  | bad r => rw [e] at h; exact h.1
  | ok p r =>
    rw [e] at h
    have h2 := altOf_suf hI r.length [p] r
    dsimp only
    cases e2 : altOf I r.length [p] r with
    | bad t => rw [e2] at h2; exact Suf.trans h2 h.1
    | ok q t => rw [e2] at h2; exact Suf.trans h2 h.1
end
theorem inn_suf : ∀ (n : Nat) (s : List Nat), (inn n s).Suf s
  | 0, s => Suf.refl _
  | n + 1, s => patT_suf (inn_suf n) s
end
end K13
namespace K13
open PySem PySem.Spec PyProof.Rows L2
local macro_rules | `(tactic| walk_at "con") => `(tactic| first | with_reducible refine Gx.conE K13.ks0 ?_ | with_reducible refine Gx.conE K13.ks1 ?_ | with_reducible refine Gx.conE K13.ks2 ?_ | with_reducible refine Gx.conE K13.ks3 ?_ | with_reducible refine Gx.conE K13.ks4 ?_ | with_reducible refine Gx.conE K13.ks5 ?_ | with_reducible refine Gx.conE K13.ks6 ?_ | with_reducible refine Gx.conE K13.ks7 ?_ | with_reducible refine Gx.conE K13.ks8 ?_ | with_reducible refine Gx.conE K13.ks9 ?_ | with_reducible refine Gx.conE K13.ks10 ?_ | with_reducible refine Gx.conE K13.ks11 ?_ | with_reducible refine Gx.conE K13.ks12 ?_ | with_reducible refine Gx.conE K13.ks13 ?_ | with_reducible refine Gx.conE K13.ks14 ?_ | with_reducible refine Gx.conE K13.ks15 ?_ | with_reducible refine Gx.conE K13.ks16 ?_ | with_reducible refine Gx.conE K13.ks17 ?_ | with_reducible refine Gx.conE K13.ks18 ?_ | with_reducible refine Gx.conE K13.ks19 ?_ | with_reducible refine Gx.conE K13.ks20 ?_ | with_reducible refine Gx.conE K13.ks21 ?_ | with_reducible refine Gx.conE K13.ks22 ?_ | with_reducible refine Gx.conE K13.ks23 ?_ | with_reducible refine Gx.conE K13.ks24 ?_ | with_reducible refine Gx.conE K13.ks25 ?_ | with_reducible refine Gx.conE K13.ks26 ?_ | with_reducible refine Gx.conE K13.ks27 ?_ | with_reducible refine Gx.conE K13.ks28 ?_ | with_reducible refine Gx.conE K13.ks29 ?_ | with_reducible refine Gx.conE K13.ks30 ?_ | with_reducible refine Gx.conE K13.ks31 ?_ | with_reducible refine Gx.conE K13.ks32 ?_ | with_reducible refine Gx.conE K13.ks33 ?_ | with_reducible refine Gx.conE K13.ks34 ?_ | with_reducible refine Gx.conE K13.ks35 ?_ | with_reducible refine Gx.conE K13.ks36 ?_ | with_reducible refine Gx.conE K13.ks37 ?_ | with_reducible refine Gx.conE K13.ks38 ?_ | with_reducible refine Gx.conE K13.ks39 ?_ | with_reducible refine Gx.conE K13.ks40 ?_ | with_reducible refine Gx.conE K13.ks41 ?_ | with_reducible refine Gx.conE K13.ks42 ?_ | with_reducible refine Gx.conE K13.ks43 ?_ | with_reducible refine Gx.conE K13.ks44 ?_ | with_reducible refine Gx.conE K13.ks45 ?_ | with_reducible refine Gx.conE K13.ks46 ?_ | with_reducible refine Gx.conE K13.ks47 ?_ | with_reducible refine Gx.conE K13.ks48 ?_ | with_reducible refine Gx.conE K13.ks49 ?_ | with_reducible refine Gx.conE K13.ks50 ?_ | with_reducible refine Gx.conE K13.ks51 ?_ | with_reducible refine Gx.conE K13.ks52 ?_ | with_reducible refine Gx.conE K13.ks53 ?_ | with_reducible refine Gx.conE K13.ks54 ?_ | with_reducible refine Gx.conE K13.ks55 ?_ | with_reducible refine Gx.conE K13.ks56 ?_ | with_reducible refine Gx.conE K13.ks57 ?_ | with_reducible refine Gx.conE K13.ks58 ?_ | with_reducible refine Gx.conE K13.ks59 ?_ | with_reducible refine Gx.conE K13.ks60 ?_ | with_reducible refine Gx.conE K13.ks61 ?_ | with_reducible refine Gx.conE K13.ks62 ?_ | with_reducible refine Gx.conE K13.ks63 ?_)
section
variable {P : Program} {w : World} {K : PySem.W.Frag} {mg : Str → Option Value} {base : Heap}
/-! ### how deep the round brackets go -/
def dep : List Nat → Nat
  | [] => 0
  | c :: r => if c = 40 then dep r + 1 else if c = 41 then dep r - 1 else dep r
theorem dep_40 (r : List Nat) : dep (40 :: r) = dep r + 1 := rfl
theorem dep_41 (r : List Nat) : dep (41 :: r) = dep r - 1 := rfl
theorem dep_ne {c : Nat} (r : List Nat) (h : c ≠ 40) (g : c ≠ 41) : dep (c :: r) = dep r := by
  rw [dep, if_neg h, if_neg g]
theorem dep_up (c : Nat) (r : List Nat) : dep r ≤ dep (c :: r) + 1 := by
  rw [dep]
  split
  · omega
  · split <;> omega
theorem dep_sg : ∀ {l : List Nat} (r : List Nat), Sg l → dep (l ++ r) = dep r
  | [], r, _ => rfl
  | c :: l, r, h => by
    have hc := h c List.mem_cons_self
    unfold sgs at hc
    simp only [List.mem_cons, List.not_mem_nil, or_false] at hc
    rw [List.cons_append, dep_ne _ (by omega) (by omega)]
    exact dep_sg r fun x hx => h x (List.mem_cons_of_mem _ hx)
/-- a result leaves no more brackets open than there were -/
def Rs.Dn {α : Type} (x : Rs α) (s : List Nat) : Prop := match x with
  | .ok _ r => dep r ≤ dep s
  | .bad _ => True
theorem spanS_sg : ∀ s : List Nat, Sg (spanS s).1
  | [] => fun c h => by cases h
  | c :: r => by
    rw [spanS]
    split
    · rename_i hc
      intro d hd
      rcases List.mem_cons.mp hd with rfl | hd
      · exact hc
      · exact spanS_sg r d hd
    · intro d hd; cases hd
theorem spanA_sg : ∀ (s : List Nat) (x : Nat), Sg (spanA x s).1
  | [], x => fun c h => by cases h
  | c :: r, x => by
    rw [spanA]
    split
    · rename_i hc
      intro d hd
      rcases List.mem_cons.mp hd with rfl | hd
      · exact hc.1
      · exact spanA_sg r _ d hd
    · intro d hd; cases hd
theorem spanS_dep (s : List Nat) : dep (spanS s).2 = dep s := by
  conv => rhs; rw [spanS_suf s, dep_sg _ (spanS_sg s)]
theorem spanA_dep (s : List Nat) (x : Nat) : dep (spanA x s).2 = dep s := by
  conv => rhs; rw [spanA_suf s x, dep_sg _ (spanA_sg s x)]
theorem leafOf_dn (sq : Bool) (r : List Nat) : (leafOf sq r).Dn r := by
  unfold leafOf
  split
  · split
    · rename_i t e
      have h := spanS_dep r
      rw [e, dep_ne _ (by decide) (by decide)] at h
      exact Nat.le_of_eq h
    · trivial
  · split
    · trivial
    · split
      · rename_i t e
        have h := spanA_dep r 0
        rw [e, dep_ne _ (by decide) (by decide)] at h
        exact Nat.le_of_eq h
      · trivial
section
variable {I : List Nat → Rs Pat} (hI : ∀ s, (I s).Dn s)
include hI
theorem baseOf_dn (s : List Nat) : (baseOf I s).Dn s := by
  have aux : ∀ (x : Rs Pat) (c : Nat) (r : List Nat), c ≠ 40 → c ≠ 41 → x.Dn r → x.Dn (c :: r) := fun x c r h g k => by
    cases x with
    | ok p t => show dep t ≤ dep (c :: r); rw [dep_ne _ h g]; exact k
    | bad t => trivial
  unfold baseOf
  split
  · exact aux _ _ _ (by decide) (by decide) (leafOf_dn _ _)
  · exact aux _ _ _ (by decide) (by decide) (leafOf_dn _ _)
  · rename_i r
    have h := hI r
    cases e : I r with
    | bad t => exact trivial
    | ok p t =>
      rw [e] at h
      cases t with
      | nil => exact trivial
      | cons c t =>
        by_cases hc : c = 41
        · subst hc
          rw [closeOf_41]
          have h1 : dep t - 1 ≤ dep r := h
          show dep t ≤ dep r + 1
          omega
        · rw [closeOf_ne hc]
          trivial
  · exact trivial
omit hI in
theorem stars_dn : ∀ (s : List Nat) (p : Pat), dep (stars p s).2 = dep s
  | [], p => rfl
  | c :: s, p => by
    unfold stars
    split
    · rename_i r e
      cases e
      rw [stars_dn, dep_ne _ (by decide) (by decide)]
    · rfl
theorem itemOf_dn (s : List Nat) : (itemOf I s).Dn s := by
  have h := baseOf_dn hI s
  unfold itemOf
  cases e : baseOf I s with
  | bad r => exact trivial
  | ok p r =>
    rw [e] at h
    show dep (stars p r).2 ≤ dep s
    rw [stars_dn]
    exact h
theorem chainOf_dn : ∀ (m : Nat) (ps : List Pat) (s : List Nat), (chainOf I m ps s).Dn s
  | 0, ps, s => Nat.le_refl _
  | m + 1, ps, s => by
    unfold chainOf
    split
    · have h := itemOf_dn hI s
      cases e : itemOf I s with
      | bad r => exact trivial
      | ok p r =>
        rw [e] at h
        have h2 := chainOf_dn m (ps ++ [p]) r
        dsimp only
        cases e2 : chainOf I m (ps ++ [p]) r with
        | bad t => exact trivial
        | ok q t => rw [e2] at h2; exact Nat.le_trans h2 h
    · exact Nat.le_refl _
theorem chainT_dn (s : List Nat) : (chainT I s).Dn s := by
  have h := itemOf_dn hI s
  unfold chainT
  cases e : itemOf I s with
  | bad r => exact trivial
  | ok p r =>
    rw [e] at h
    have h2 := chainOf_dn hI r.length [p] r
    dsimp only
    cases e2 : chainOf I r.length [p] r with
    | bad t => exact trivial
    | ok q t => rw [e2] at h2; exact Nat.le_trans h2 h
theorem altOf_dn : ∀ (m : Nat) (ps : List Pat) (s : List Nat), (altOf I m ps s).Dn s
  | 0, ps, s => Nat.le_refl _
  | m + 1, ps, s => by
    unfold altOf
    split
    · rename_i t
      have h := chainT_dn hI t
      cases e : chainT I t with
      | bad r => exact trivial
      | ok p r =>
        rw [e] at h
        have h2 := altOf_dn m (ps ++ [p]) r
        dsimp only
        cases e2 : altOf I m (ps ++ [p]) r with
        | bad t => exact trivial
        | ok q u =>
          rw [e2] at h2
          show dep u ≤ dep (124 :: t)
          rw [dep_ne _ (by decide) (by decide)]
          exact Nat.le_trans h2 h
    · exact Nat.le_refl _
theorem patT_dn (s : List Nat) : (patT I s).Dn s := by
  have h := chainT_dn hI s
  unfold patT
  cases e : chainT I s with
  | bad r => exact trivial
  | ok p r =>
    rw [e] at h
    have h2 := altOf_dn hI r.length [p] r
    dsimp only
    cases e2 : altOf I r.length [p] r with
    | bad t => exact trivial
    | ok q t => rw [e2] at h2; exact Nat.le_trans h2 h
end
theorem inn_dn : ∀ (n : Nat) (s : List Nat), (inn n s).Dn s
  | 0, s => trivial
  | n + 1, s => patT_dn (inn_dn n) s
end
end K13
namespace K13
open PySem PySem.Spec PyProof.Rows L2
local macro_rules | `(tactic| walk_at "con") => `(tactic| first | with_reducible refine Gx.conE K13.ks0 ?_ | with_reducible refine Gx.conE K13.ks1 ?_ | with_reducible refine Gx.conE K13.ks2 ?_ | with_reducible refine Gx.conE K13.ks3 ?_ | with_reducible refine Gx.conE K13.ks4 ?_ | with_reducible refine Gx.conE K13.ks5 ?_ | with_reducible refine Gx.conE K13.ks6 ?_ | with_reducible refine Gx.conE K13.ks7 ?_ | with_reducible refine Gx.conE K13.ks8 ?_ | with_reducible refine Gx.conE K13.ks9 ?_ | with_reducible refine Gx.conE K13.ks10 ?_ | with_reducible refine Gx.conE K13.ks11 ?_ | with_reducible refine Gx.conE K13.ks12 ?_ | with_reducible refine Gx.conE K13.ks13 ?_ | with_reducible refine Gx.conE K13.ks14 ?_ | with_reducible refine Gx.conE K13.ks15 ?_ | with_reducible refine Gx.conE K13.ks16 ?_ | with_reducible refine Gx.conE K13.ks17 ?_ | with_reducible refine Gx.conE K13.ks18 ?_ | with_reducible refine Gx.conE K13.ks19 ?_ | with_reducible refine Gx.conE K13.ks20 ?_ | with_reducible refine Gx.conE K13.ks21 ?_ | with_reducible refine Gx.conE K13.ks22 ?_ | with_reducible refine Gx.conE K13.ks23 ?_ | with_reducible refine Gx.conE K13.ks24 ?_ | with_reducible refine Gx.conE K13.ks25 ?_ | with_reducible refine Gx.conE K13.ks26 ?_ | with_reducible refine Gx.conE K13.ks27 ?_ | with_reducible refine Gx.conE K13.ks28 ?_ | with_reducible refine Gx.conE K13.ks29 ?_ | with_reducible refine Gx.conE K13.ks30 ?_ | with_reducible refine Gx.conE K13.ks31 ?_ | with_reducible refine Gx.conE K13.ks32 ?_ | with_reducible refine Gx.conE K13.ks33 ?_ | with_reducible refine Gx.conE K13.ks34 ?_ | with_reducible refine Gx.conE K13.ks35 ?_ | with_reducible refine Gx.conE K13.ks36 ?_ | with_reducible refine Gx.conE K13.ks37 ?_ | with_reducible refine Gx.conE K13.ks38 ?_ | with_reducible refine Gx.conE K13.ks39 ?_ | with_reducible refine Gx.conE K13.ks40 ?_ | with_reducible refine Gx.conE K13.ks41 ?_ | with_reducible refine Gx.conE K13.ks42 ?_ | with_reducible refine Gx.conE K13.ks43 ?_ | with_reducible refine Gx.conE K13.ks44 ?_ | with_reducible refine Gx.conE K13.ks45 ?_ | with_reducible refine Gx.conE K13.ks46 ?_ | with_reducible refine Gx.conE K13.ks47 ?_ | with_reducible refine Gx.conE K13.ks48 ?_ | with_reducible refine Gx.conE K13.ks49 ?_ | with_reducible refine Gx.conE K13.ks50 ?_ | with_reducible refine Gx.conE K13.ks51 ?_ | with_reducible refine Gx.conE K13.ks52 ?_ | with_reducible refine Gx.conE K13.ks53 ?_ | with_reducible refine Gx.conE K13.ks54 ?_ | with_reducible refine Gx.conE K13.ks55 ?_ | with_reducible refine Gx.conE K13.ks56 ?_ | with_reducible refine Gx.conE K13.ks57 ?_ | with_reducible refine Gx.conE K13.ks58 ?_ | with_reducible refine Gx.conE K13.ks59 ?_ | with_reducible refine Gx.conE K13.ks60 ?_ | with_reducible refine Gx.conE K13.ks61 ?_ | with_reducible refine Gx.conE K13.ks62 ?_ | with_reducible refine Gx.conE K13.ks63 ?_)
section
variable {P : Program} {w : World} {K : PySem.W.Frag} {mg : Str → Option Value} {base : Heap}
/-! ### the law's own reader, and that it reads alike -/
def cnt (s : List Nat) : Nat := s.count 40
theorem cnt_cons (c : Nat) (s : List Nat) : cnt (c :: s) = cnt s + (if c = 40 then 1 else 0) := by
  unfold cnt
  rw [List.count_cons]
  congr 1
  by_cases h : c = 40
  · simp [h]
  · simp [h]
theorem Suf.cnt {r s : List Nat} (h : Suf r s) : cnt r ≤ cnt s := by
  obtain ⟨t, rfl⟩ := h
  unfold K13.cnt
  rw [List.count_append]
  omega
def starLast (qs : List Pat) : List Pat := qs.dropLast ++ [.star (qs.getLastD (.word []))]
theorem starLast_snoc (qs : List Pat) (p : Pat) : starLast (qs ++ [p]) = qs ++ [.star p] := by
  unfold starLast
  simp
abbrev Fr := List Pat × List Pat
def Fr.all (f : Fr) : Pat := fold false (f.1 ++ [fold true f.2])
def lrun : Nat → List Fr → Fr → Bool → List Nat → Option Pat × List Nat
  | 0, fs, fr, w, s => if s = [] then (if (w || !fs.isEmpty) = true then (none, []) else (some fr.all, [])) else (none, s)
  | m + 1, fs, fr, w, s => match s with
    | [] => if (w || !fs.isEmpty) = true then (none, []) else (some fr.all, [])
    | c :: r =>
      if c = 60 ∨ c = 91 then (match leafOf (c == 91) r with | .ok p t => lrun m fs (fr.1, fr.2 ++ [p]) false t | .bad t => (none, t))
      else if c = 40 then lrun m (fr :: fs) ([], []) true r
      else if w = true then (none, c :: r)
      else if c = 42 then lrun m fs (fr.1, starLast fr.2) false r
      else if c = 124 then lrun m fs (fr.1 ++ [fold true fr.2], []) true r
      else (match fs with | [] => (some fr.all, c :: r) | f :: fs' => if c = 41 then lrun m fs' (f.1, f.2 ++ [fr.all]) false r else (none, c :: r))
theorem lrun_nil (m : Nat) (fs : List Fr) (fr : Fr) (w : Bool) : lrun m fs fr w [] = if (w || !fs.isEmpty) = true then (none, []) else (some fr.all, []) := by
  cases m <;> simp [lrun]
theorem lrun_cons (m : Nat) (fs : List Fr) (fr : Fr) (w : Bool) (c : Nat) (r : List Nat) : lrun (m + 1) fs fr w (c :: r) =
      if c = 60 ∨ c = 91 then (match leafOf (c == 91) r with | .ok p t => lrun m fs (fr.1, fr.2 ++ [p]) false t | .bad t => (none, t))
      else if c = 40 then lrun m (fr :: fs) ([], []) true r
      else if w = true then (none, c :: r)
      else if c = 42 then lrun m fs (fr.1, starLast fr.2) false r
      else if c = 124 then lrun m fs (fr.1 ++ [fold true fr.2], []) true r
      else (match fs with | [] => (some fr.all, c :: r) | f :: fs' => if c = 41 then lrun m fs' (f.1, f.2 ++ [fr.all]) false r else (none, c :: r)) := by
  conv => lhs; unfold lrun
/-- no more of a pattern stands here -/
def Ended (s : List Nat) : Prop := ∀ c r, s = c :: r → c ≠ 60 ∧ c ≠ 91 ∧ c ≠ 40 ∧ c ≠ 42 ∧ c ≠ 124
def NoStar (s : List Nat) : Prop := ∀ c r, s = c :: r → c ≠ 42
def SimP (I : List Nat → Rs Pat) (s : List Nat) : Prop := ∀ (fs : List Fr) (m : Nat), s.length ≤ m → match I s with
  | .ok p t => ∃ (m' : Nat) (fr : Fr), t.length ≤ m' ∧ fr.all = p ∧ Ended t ∧ lrun m fs ([], []) true s = lrun m' fs fr false t
  | .bad t => lrun m fs ([], []) true s = (none, t)
section
variable {I : List Nat → Rs Pat} {n : Nat} (hsuf : ∀ s, (I s).Suf s) (hdn : ∀ s, (I s).Dn s) (hI : ∀ s, dep s + 1 ≤ n → SimP I s)
include hI
theorem sim_base (s : List Nat) (hn : dep s ≤ n) (fs : List Fr) (fr : Fr) (w : Bool) (m : Nat) (hm : s.length ≤ m) (hw : w = true ∨ starts s = true) : match baseOf I s with
    | .ok p t => ∃ m', t.length ≤ m' ∧ lrun m fs fr w s = lrun m' fs (fr.1, fr.2 ++ [p]) false t
    | .bad t => lrun m fs fr w s = (none, t) := by
  cases s with
  | nil =>
    show lrun m fs fr w [] = (none, [])
    rcases hw with hw | hw
    · rw [lrun_nil, hw]
      rfl
    · cases hw
  | cons c r =>
    cases m with
    | zero => simp at hm
    | succ m =>
      rw [List.length_cons] at hm
      have hlf : ∀ sq : Bool, match leafOf sq r with
          | .ok p t => t.length ≤ m
          | .bad _ => True := fun sq => by
        have h := leafOf_suf sq r
        cases e : leafOf sq r with
        | bad t => trivial
        | ok p t =>
          rw [e] at h
          have := Suf.len h
          show t.length ≤ m
          omega
      by_cases h60 : c = 60
      · subst h60
        show match leafOf false r with | .ok p t => _ | .bad t => _
        have h := hlf false
        rw [lrun_cons]
        simp only [true_or, if_true]
        rw [show ((60 : Nat) == 91) = false by decide]
        cases e : leafOf false r with
        | bad t => rfl
        | ok p t => rw [e] at h; exact ⟨m, h, rfl⟩
      · by_cases h91 : c = 91
        · subst h91
          show match leafOf true r with | .ok p t => _ | .bad t => _
          have h := hlf true
          rw [lrun_cons]
          simp only [or_true, if_true]
          rw [show ((91 : Nat) == 91) = true by decide]
          cases e : leafOf true r with
          | bad t => rfl
          | ok p t => rw [e] at h; exact ⟨m, h, rfl⟩
        · by_cases h40 : c = 40
          · subst h40
            rw [dep_40] at hn
            have h := hI r hn (fr :: fs) m (by omega)
            show match closeOf (I r) with | .ok p t => _ | .bad t => _
            have e0 : lrun (m + 1) fs fr w (40 :: r) = lrun m (fr :: fs) ([], []) true r := by
              rw [lrun_cons]
              simp
            rw [e0]
            cases e : I r with
            | bad t => rw [e] at h; exact h
            | ok p t =>
              rw [e] at h
              obtain ⟨m', f, hl, hp, he, hr⟩ := h
              rw [hr]
              cases t with
              | nil => rw [closeOf_nil]; show lrun m' (fr :: fs) f false [] = _; rw [lrun_nil]; rfl
              | cons d t =>
                obtain ⟨e1, e2, e3, e4, e5⟩ := he d t rfl
                cases m' with
                | zero => simp at hl
                | succ m' =>
                  rw [List.length_cons] at hl
                  by_cases h41 : d = 41
                  · subst h41
                    rw [closeOf_41]
                    refine ⟨m', by omega, ?_⟩
                    rw [lrun_cons]
                    simp [hp]
                  · rw [closeOf_ne h41]
                    show lrun (m' + 1) (fr :: fs) f false (d :: t) = _
                    rw [lrun_cons]
                    simp [e1, e2, e3, e4, e5, h41]
          · have eb : baseOf I (c :: r) = .bad (c :: r) := by
              unfold baseOf
              split
              · rename_i e; injection e with e _; exact absurd e h60
              · rename_i e; injection e with e _; exact absurd e h91
              · rename_i e; injection e with e _; exact absurd e h40
              · rfl
            rw [eb]
            show lrun (m + 1) fs fr w (c :: r) = _
            have hs : starts (c :: r) = false := by simp [starts, h60, h91, h40]
            rcases hw with hw | hw
            · rw [lrun_cons]
              simp [h60, h91, h40, hw]
            · rw [hs] at hw
              cases hw
omit hI in
theorem stars_ne {p : Pat} {c : Nat} {r : List Nat} (h : c ≠ 42) : stars p (c :: r) = (p, c :: r) := by
  unfold stars
  split
  · rename_i e; injection e with e _; exact absurd e h
  · rfl
omit hI in
theorem stars_no : ∀ (s : List Nat) (p : Pat), NoStar (stars p s).2
  | [], p => fun c r e => by unfold stars at e; cases e
  | d :: s, p => by
    by_cases h : d = 42
    · subst h
      exact stars_no s (.star p)
    · rw [stars_ne h]
      intro c r e
      injection e with e _
      omega
omit hI in
theorem sim_stars : ∀ (s : List Nat) (p : Pat) (fs : List Fr) (a b : List Pat) (m : Nat), s.length ≤ m → ∃ m', (stars p s).2.length ≤ m' ∧ lrun m fs (a, b ++ [p]) false s = lrun m' fs (a, b ++ [(stars p s).1]) false (stars p s).2
  | [], p, fs, a, b, m, hm => ⟨m, hm, rfl⟩
  | c :: s, p, fs, a, b, m, hm => by
    by_cases h : c = 42
    · subst h
      cases m with
      | zero => simp at hm
      | succ m =>
        rw [List.length_cons] at hm
        obtain ⟨m', h1, h2⟩ := sim_stars s (.star p) fs a b m (by omega)
        refine ⟨m', h1, ?_⟩
        rw [lrun_cons]
        simp only [starLast_snoc]
        rw [show stars p (42 :: s) = stars (.star p) s from rfl]
        simpa using h2
    · rw [stars_ne h]
      exact ⟨m, hm, rfl⟩
theorem sim_item (s : List Nat) (hn : dep s ≤ n) (fs : List Fr) (a b : List Pat) (w : Bool) (m : Nat) (hm : s.length ≤ m) (hw : w = true ∨ starts s = true) : match itemOf I s with
    | .ok p t => NoStar t ∧ ∃ m', t.length ≤ m' ∧ lrun m fs (a, b) w s = lrun m' fs (a, b ++ [p]) false t
    | .bad t => lrun m fs (a, b) w s = (none, t) := by
  have h := sim_base hI s hn fs (a, b) w m hm hw
  unfold itemOf
  cases e : baseOf I s with
  | bad t => rw [e] at h; exact h
  | ok p t =>
    rw [e] at h
    obtain ⟨m', h1, h2⟩ := h
    obtain ⟨m2, h3, h4⟩ := sim_stars t p fs a b m' h1
    exact ⟨stars_no _ _, m2, h3, h2.trans h4⟩
include hsuf hdn
theorem sim_chain : ∀ (k : Nat) (qs : List Pat) (s : List Nat), s.length ≤ k → dep s ≤ n → NoStar s → ∀ (fs : List Fr) (a : List Pat) (m : Nat), s.length ≤ m → match chainOf I k qs s with
    | .ok ps t => NoStar t ∧ starts t = false ∧ ∃ m', t.length ≤ m' ∧ lrun m fs (a, qs) false s = lrun m' fs (a, ps) false t
    | .bad t => lrun m fs (a, qs) false s = (none, t)
  | 0, qs, s, hk, hn, ns, fs, a, m, hm => by
    have : s = [] := List.eq_nil_of_length_eq_zero (by omega)
    subst this
    exact ⟨ns, rfl, m, hm, rfl⟩
  | k + 1, qs, s, hk, hn, ns, fs, a, m, hm => by
    unfold chainOf
    by_cases hs : starts s = true
    · rw [if_pos hs]
      have h := sim_item hI s hn fs a qs false m hm (.inr hs)
      have hf := itemOf_suf hsuf s
      have hd := itemOf_dn hdn s
      cases e : itemOf I s with
      | bad t => rw [e] at h; exact h
      | ok p t =>
        rw [e] at h hf hd
        obtain ⟨h0, m', h1, h2⟩ := h
        have hlt : t.length < s.length := hf.2
        have h3 := sim_chain k (qs ++ [p]) t (by omega) (Nat.le_trans hd hn) h0 fs a m' h1
        dsimp only
        rw [h2]
        exact h3
    · rw [if_neg hs]
      exact ⟨ns, by simpa using hs, m, hm, rfl⟩
theorem sim_chainT (s : List Nat) (hn : dep s ≤ n) (fs : List Fr) (a : List Pat) (m : Nat) (hm : s.length ≤ m) : match chainT I s with
    | .ok p t => NoStar t ∧ starts t = false ∧ ∃ m' qs, t.length ≤ m' ∧ fold true qs = p ∧ lrun m fs (a, []) true s = lrun m' fs (a, qs) false t
    | .bad t => lrun m fs (a, []) true s = (none, t) := by
  have h := sim_item hI s hn fs a [] true m hm (.inl rfl)
  have hf := itemOf_suf hsuf s
  have hd := itemOf_dn hdn s
  unfold chainT
  cases e : itemOf I s with
  | bad t => rw [e] at h; exact h
  | ok p t =>
    rw [e] at h hf hd
    obtain ⟨h0, m', h1, h2⟩ := h
    have h3 := sim_chain hsuf hdn hI t.length [p] t (Nat.le_refl _) (Nat.le_trans hd hn) h0 fs a m' h1
    dsimp only
    rw [h2]
    rw [List.nil_append]
    cases e2 : chainOf I t.length [p] t with
    | bad u => rw [e2] at h3; exact h3
    | ok qs u =>
      rw [e2] at h3
      obtain ⟨g0, g1, m2, g2, g3⟩ := h3
      exact ⟨g0, g1, m2, qs, g2, rfl, g3⟩
theorem sim_alt : ∀ (k : Nat) (a qs : List Pat) (s : List Nat), s.length ≤ k → dep s ≤ n → NoStar s → starts s = false → ∀ (fs : List Fr) (m : Nat), s.length ≤ m → match altOf I k (a ++ [fold true qs]) s with
    | .ok ps t => Ended t ∧ ∃ (m' : Nat) (fr : Fr), t.length ≤ m' ∧ fr.all = fold false ps ∧ lrun m fs (a, qs) false s = lrun m' fs fr false t
    | .bad t => lrun m fs (a, qs) false s = (none, t)
  | 0, a, qs, s, hk, hn, ns, st, fs, m, hm => by
    have : s = [] := List.eq_nil_of_length_eq_zero (by omega)
    subst this
    exact ⟨fun c r e => (by cases e), m, (a, qs), hm, rfl, rfl⟩
  | k + 1, a, qs, s, hk, hn, ns, st, fs, m, hm => by
    have stop : (∀ c r, s = c :: r → c ≠ 124) → Ended s := fun h c r e => by
      subst e
      have := ns c r rfl
      have h2 := h c r rfl
      unfold starts at st
      simp at st
      exact ⟨by omega, by omega, by omega, this, h2⟩
    cases s with
    | nil => exact ⟨fun c r e => (by cases e), m, (a, qs), hm, rfl, rfl⟩
    | cons c r =>
      by_cases h : c = 124
      · subst h
        cases m with
        | zero => simp at hm
        | succ m =>
          rw [List.length_cons] at hm hk
          rw [dep_ne _ (by decide) (by decide)] at hn
          have h := sim_chainT hsuf hdn hI r (by omega) fs (a ++ [fold true qs]) m (by omega)
          have hf := chainT_suf hsuf r
          have hd := chainT_dn hdn r
          have e0 : lrun (m + 1) fs (a, qs) false (124 :: r) = lrun m fs (a ++ [fold true qs], []) true r := by
            rw [lrun_cons]
            simp
          rw [e0]
          show match (match chainT I r with | .ok p t => altOf I k ((a ++ [fold true qs]) ++ [p]) t | .bad t => .bad t) with | .ok ps t => _ | .bad t => _
          cases e : chainT I r with
          | bad t => rw [e] at h; exact h
          | ok p t =>
            rw [e] at h hf hd
            obtain ⟨g0, g1, m', qs', g2, rfl, g3⟩ := h
            have hlt : t.length < r.length := hf.2
            have h3 := sim_alt k (a ++ [fold true qs]) qs' t (by omega) (Nat.le_trans hd (by omega)) g0 g1 fs m' g2
            dsimp only
            rw [g3]
            exact h3
      · have ea : altOf I (k + 1) (a ++ [fold true qs]) (c :: r) = .ok (a ++ [fold true qs]) (c :: r) := by
          unfold altOf
          split
          · rename_i e; injection e with e _; exact absurd e h
          · rfl
        rw [ea]
        exact ⟨stop fun d u e => by injection e with e _; omega, m, (a, qs), hm, rfl, rfl⟩
theorem sim_pat (s : List Nat) (hn : dep s ≤ n) : SimP (patT I) s := by
  intro fs m hm
  have h := sim_chainT hsuf hdn hI s hn fs [] m hm
  have hf := chainT_suf hsuf s
  have hd := chainT_dn hdn s
  unfold patT
  cases e : chainT I s with
  | bad t => rw [e] at h; exact h
  | ok p t =>
    rw [e] at h hf hd
    obtain ⟨g0, g1, m', qs, g2, rfl, g3⟩ := h
    have h3 := sim_alt hsuf hdn hI t.length [] qs t (Nat.le_refl _) (Nat.le_trans hd hn) g0 g1 fs m' g2
    dsimp only
    rw [List.nil_append] at h3
    rw [g3]
    cases e2 : altOf I t.length [fold true qs] t with
    | bad u => rw [e2] at h3; exact h3
    | ok ps u =>
      rw [e2] at h3
      obtain ⟨k0, m2, fr, k1, k2, k3⟩ := h3
      exact ⟨m2, fr, k1, k2, k0, k3⟩
end
theorem sim_inn : ∀ (n : Nat) (s : List Nat), dep s + 1 ≤ n → SimP (inn n) s
  | 0, s, h => by omega
  | n + 1, s, h => sim_pat (inn_suf n) (inn_dn n) (sim_inn n) s (by omega)
/-- read_pattern -/
def readP (n : Nat) (l : List Nat) : Rs Pat := match inn n l with
  | .ok p [] => .ok p []
  | .ok _ (c :: r) => .bad (c :: r)
  | .bad r => .bad r
/-- the law's reader tells the same -/
theorem sim_top {n m : Nat} {l : List Nat} (h : dep l + 1 ≤ n) (hm : l.length ≤ m) : match inn n l with
    | .ok p r => lrun m [] ([], []) true l = (some p, r)
    | .bad r => lrun m [] ([], []) true l = (none, r) := by
  have h := sim_inn n l h [] m hm
  cases e : inn n l with
  | bad r => rw [e] at h; exact h
  | ok p t =>
    rw [e] at h
    obtain ⟨m', fr, h1, h2, h3, h4⟩ := h
    dsimp only
    rw [h4]
    cases t with
    | nil => rw [lrun_nil, ← h2]; rfl
    | cons c r =>
      obtain ⟨e1, e2, e3, e4, e5⟩ := h3 c r rfl
      cases m' with
      | zero => simp at h1
      | succ m' =>
        rw [lrun_cons]
        simp [e1, e2, e3, e4, e5, h2]
end
end K13
namespace K13
open PySem PySem.Spec PyProof.Rows L2
local macro_rules | `(tactic| walk_at "con") => `(tactic| first | with_reducible refine Gx.conE K13.ks0 ?_ | with_reducible refine Gx.conE K13.ks1 ?_ | with_reducible refine Gx.conE K13.ks2 ?_ | with_reducible refine Gx.conE K13.ks3 ?_ | with_reducible refine Gx.conE K13.ks4 ?_ | with_reducible refine Gx.conE K13.ks5 ?_ | with_reducible refine Gx.conE K13.ks6 ?_ | with_reducible refine Gx.conE K13.ks7 ?_ | with_reducible refine Gx.conE K13.ks8 ?_ | with_reducible refine Gx.conE K13.ks9 ?_ | with_reducible refine Gx.conE K13.ks10 ?_ | with_reducible refine Gx.conE K13.ks11 ?_ | with_reducible refine Gx.conE K13.ks12 ?_ | with_reducible refine Gx.conE K13.ks13 ?_ | with_reducible refine Gx.conE K13.ks14 ?_ | with_reducible refine Gx.conE K13.ks15 ?_ | with_reducible refine Gx.conE K13.ks16 ?_ | with_reducible refine Gx.conE K13.ks17 ?_ | with_reducible refine Gx.conE K13.ks18 ?_ | with_reducible refine Gx.conE K13.ks19 ?_ | with_reducible refine Gx.conE K13.ks20 ?_ | with_reducible refine Gx.conE K13.ks21 ?_ | with_reducible refine Gx.conE K13.ks22 ?_ | with_reducible refine Gx.conE K13.ks23 ?_ | with_reducible refine Gx.conE K13.ks24 ?_ | with_reducible refine Gx.conE K13.ks25 ?_ | with_reducible refine Gx.conE K13.ks26 ?_ | with_reducible refine Gx.conE K13.ks27 ?_ | with_reducible refine Gx.conE K13.ks28 ?_ | with_reducible refine Gx.conE K13.ks29 ?_ | with_reducible refine Gx.conE K13.ks30 ?_ | with_reducible refine Gx.conE K13.ks31 ?_ | with_reducible refine Gx.conE K13.ks32 ?_ | with_reducible refine Gx.conE K13.ks33 ?_ | with_reducible refine Gx.conE K13.ks34 ?_ | with_reducible refine Gx.conE K13.ks35 ?_ | with_reducible refine Gx.conE K13.ks36 ?_ | with_reducible refine Gx.conE K13.ks37 ?_ | with_reducible refine Gx.conE K13.ks38 ?_ | with_reducible refine Gx.conE K13.ks39 ?_ | with_reducible refine Gx.conE K13.ks40 ?_ | with_reducible refine Gx.conE K13.ks41 ?_ | with_reducible refine Gx.conE K13.ks42 ?_ | with_reducible refine Gx.conE K13.ks43 ?_ | with_reducible refine Gx.conE K13.ks44 ?_ | with_reducible refine Gx.conE K13.ks45 ?_ | with_reducible refine Gx.conE K13.ks46 ?_ | with_reducible refine Gx.conE K13.ks47 ?_ | with_reducible refine Gx.conE K13.ks48 ?_ | with_reducible refine Gx.conE K13.ks49 ?_ | with_reducible refine Gx.conE K13.ks50 ?_ | with_reducible refine Gx.conE K13.ks51 ?_ | with_reducible refine Gx.conE K13.ks52 ?_ | with_reducible refine Gx.conE K13.ks53 ?_ | with_reducible refine Gx.conE K13.ks54 ?_ | with_reducible refine Gx.conE K13.ks55 ?_ | with_reducible refine Gx.conE K13.ks56 ?_ | with_reducible refine Gx.conE K13.ks57 ?_ | with_reducible refine Gx.conE K13.ks58 ?_ | with_reducible refine Gx.conE K13.ks59 ?_ | with_reducible refine Gx.conE K13.ks60 ?_ | with_reducible refine Gx.conE K13.ks61 ?_ | with_reducible refine Gx.conE K13.ks62 ?_ | with_reducible refine Gx.conE K13.ks63 ?_)
section
variable {P : Program} {w : World} {K : PySem.W.Frag} {mg : Str → Option Value} {base : Heap}
/-! ### texts of patterns, and that they are read back -/
def need : Nat → Pat → Nat
  | c, .two true _ _ => if c = 1 ∨ c = 2 then 1 else 0
  | c, .two false _ _ => if c = 1 ∨ c = 2 ∨ c = 3 ∨ c = 4 then 1 else 0
  | _, _ => 0
def brk : Nat → List Nat → List Nat
  | 0, t => t
  | k + 1, t => 40 :: (brk k t ++ [41])
def kOk (loose : Bool) (c : Nat) (p : Pat) (k : Nat) : Prop := need c p ≤ k ∧ k ≤ need c p + (if loose = true then 2 else 0)
inductive LT (loose : Bool) : Nat → Pat → List Nat → Prop where
  | word {c k : Nat} {l : List Nat} : kOk loose c (.word l) k → LT loose c (.word l) (brk k (60 :: (l ++ [62])))
  | one {c k : Nat} {l : List Nat} : kOk loose c (.one l) k → LT loose c (.one l) (brk k (91 :: (l ++ [93])))
  | star {c k : Nat} {p : Pat} {t : List Nat} : kOk loose c (.star p) k → LT loose 1 p t → LT loose c (.star p) (brk k (t ++ [42]))
  | seq {c k : Nat} {p q : Pat} {t u : List Nat} : kOk loose c (.two true p q) k → LT loose 2 p t → LT loose 3 q u → LT loose c (.two true p q) (brk k (t ++ u))
  | alt {c k : Nat} {p q : Pat} {t u : List Nat} : kOk loose c (.two false p q) k → LT loose 4 p t → LT loose 5 q u → LT loose c (.two false p q) (brk k (t ++ (124 :: u)))
/-- words of signs, sets of signs in order -/
def Pat.rd : Pat → Prop
  | .word l => Sg l
  | .one l => Sg l ∧ l ≠ [] ∧ l.Pairwise (· < ·)
  | .star p => p.rd
  | .two _ p q => p.rd ∧ q.rd
theorem Pat.rd_sg : ∀ p : Pat, p.rd → p.sg
  | .word _, h => h
  | .one _, h => h.1
  | .star p, h => Pat.rd_sg p h
  | .two _ p q, h => ⟨Pat.rd_sg p h.1, Pat.rd_sg q h.2⟩
theorem spanS_all : ∀ (l r : List Nat) (c : Nat), Sg l → c ∉ sgs → spanS (l ++ c :: r) = (l, c :: r)
  | [], r, c, _, h => by
    rw [List.nil_append, spanS, if_neg h]
  | x :: l, r, c, hl, h => by
    rw [List.cons_append, spanS, if_pos (hl x List.mem_cons_self), spanS_all l r c (fun y hy => hl y (List.mem_cons_of_mem _ hy)) h]
theorem spanA_all : ∀ (l r : List Nat) (c x : Nat), Sg l → c ∉ sgs → (x :: l).Pairwise (· < ·) → spanA x (l ++ c :: r) = (l, c :: r)
  | [], r, c, x, _, h, _ => by
    rw [List.nil_append, spanA, if_neg (fun z => h z.1)]
  | y :: l, r, c, x, hl, h, hp => by
    have h1 := List.pairwise_cons.mp hp
    rw [List.cons_append, spanA, if_pos ⟨hl y List.mem_cons_self, h1.1 y List.mem_cons_self⟩, spanA_all l r c y (fun z hz => hl z (List.mem_cons_of_mem _ hz)) h h1.2]
theorem leaf_word {l r : List Nat} (h : Sg l) : leafOf false (l ++ 62 :: r) = .ok (.word l) r := by
  unfold leafOf
  rw [if_pos rfl, spanS_all l r 62 h (by decide)]
  rfl
theorem leaf_one {l r : List Nat} (h : Sg l) (ne : l ≠ []) (p : l.Pairwise (· < ·)) : leafOf true (l ++ 93 :: r) = .ok (.one l) r := by
  unfold leafOf
  have hp : (0 :: l).Pairwise (· < ·) := List.pairwise_cons.mpr ⟨fun c hc => by
    have := h c hc
    unfold sgs at this
    simp only [List.mem_cons, List.not_mem_nil, or_false] at this
    omega, p⟩
  rw [if_neg (by decide), spanA_all l r 93 0 h (by decide) hp]
  dsimp only
  rw [if_neg ne]
  rfl
/-- as an item, as a chain, as a pattern -/
def RI (n : Nat) (p : Pat) (t : List Nat) : Prop := ∀ r, itemOf (inn n) (t ++ r) = .ok (stars p r).1 (stars p r).2
def noItem (r : List Nat) : Prop := starts r = false ∧ NoStar r
def RC (n : Nat) (p : Pat) (t : List Nat) : Prop := ∃ ps, fold true ps = p ∧ ps ≠ [] ∧ ∀ r, noItem r → ∃ p0 u, itemOf (inn n) (t ++ r) = .ok p0 u ∧ ∃ v, ps = p0 :: v ∧ ∀ (k : Nat) (a : List Pat), u.length ≤ k → chainOf (inn n) k a u = .ok (a ++ v) r
def RA (n : Nat) (p : Pat) (t : List Nat) : Prop := ∃ ps, fold false ps = p ∧ ps ≠ [] ∧ ∀ r, Ended r → ∃ p0 u, chainT (inn n) (t ++ r) = .ok p0 u ∧ ∃ v, ps = p0 :: v ∧ ∀ (k : Nat) (a : List Pat), u.length ≤ k → altOf (inn n) k a u = .ok (a ++ v) r
theorem Ended.noItem {r : List Nat} (h : Ended r) : noItem r := by
  cases r with
  | nil => exact ⟨rfl, fun c r e => by cases e⟩
  | cons c r =>
    obtain ⟨h1, h2, h3, h4, h5⟩ := h c r rfl
    exact ⟨by simp [starts, h1, h2, h3], fun d u e => by injection e with e _; omega⟩
theorem stars_stop {p : Pat} {r : List Nat} (h : NoStar r) : stars p r = (p, r) := by
  cases r with
  | nil => rfl
  | cons c r => exact stars_ne (h c r rfl)
theorem chain_stop {I : List Nat → Rs Pat} {k : Nat} {a : List Pat} {r : List Nat} (h : starts r = false) : chainOf I k a r = .ok a r := by
  cases k with
  | zero => rfl
  | succ k =>
    unfold chainOf
    rw [h]
    rfl
theorem alt_stop {I : List Nat → Rs Pat} {k : Nat} {a : List Pat} {r : List Nat} (h : Ended r) : altOf I k a r = .ok a r := by
  cases k with
  | zero => rfl
  | succ k =>
    unfold altOf
    split
    · rename_i t
      exact absurd rfl (h 124 t rfl).2.2.2.2
    · rfl
theorem RI.rc {n : Nat} {p : Pat} {t : List Nat} (h : RI n p t) : RC n p t :=
  ⟨[p], rfl, by simp, fun r hr => ⟨p, r, by rw [h r, stars_stop hr.2], [], rfl, fun k a _ => by rw [chain_stop hr.1, List.append_nil]⟩⟩
theorem RC.chainT {n : Nat} {p : Pat} {t r : List Nat} (h : RC n p t) (hr : noItem r) : chainT (inn n) (t ++ r) = .ok p r := by
  obtain ⟨ps, e, _, h⟩ := h
  obtain ⟨p0, u, h1, v, rfl, h2⟩ := h r hr
  unfold K13.chainT
  rw [h1]
  dsimp only
  rw [h2 u.length [p0] (Nat.le_refl _)]
  dsimp only
  rw [← e]
  rfl
theorem RC.ra {n : Nat} {p : Pat} {t : List Nat} (h : RC n p t) : RA n p t :=
  ⟨[p], rfl, by simp, fun r hr => ⟨p, r, h.chainT hr.noItem, [], rfl, fun k a _ => by rw [alt_stop hr, List.append_nil]⟩⟩
theorem RA.patT {n : Nat} {p : Pat} {t r : List Nat} (h : RA n p t) (hr : Ended r) : patT (inn n) (t ++ r) = .ok p r := by
  obtain ⟨ps, e, _, h⟩ := h
  obtain ⟨p0, u, h1, v, rfl, h2⟩ := h r hr
  unfold K13.patT
  rw [h1]
  dsimp only
  rw [h2 u.length [p0] (Nat.le_refl _)]
  dsimp only
  rw [← e]
  rfl
/-- in brackets: an item -/
theorem RA.brk {n : Nat} {p : Pat} {t : List Nat} (h : RA n p t) : RI (n + 1) p (40 :: (t ++ [41])) := by
  intro r
  have hr : Ended (41 :: r) := fun c u e => by injection e with e _; subst e; decide
  have h1 := h.patT hr
  unfold itemOf
  rw [show 40 :: (t ++ [41]) ++ r = 40 :: (t ++ 41 :: r) by simp]
  show (match closeOf (inn (n + 1) (t ++ 41 :: r)) with | .ok p r => Rs.ok (stars p r).1 (stars p r).2 | .bad r => .bad r) = _
  rw [show inn (n + 1) (t ++ 41 :: r) = K13.patT (inn n) (t ++ 41 :: r) from rfl, h1, closeOf_41]
theorem cnt_app (a b : List Nat) : cnt (a ++ b) = cnt a + cnt b := List.count_append ..
theorem cnt_brk (k : Nat) (t : List Nat) : cnt (K13.brk k t) = cnt t + k := by
  induction k with
  | zero => rfl
  | succ k ih =>
    show cnt (40 :: (K13.brk k t ++ [41])) = _
    rw [cnt_cons, cnt_app, ih, if_pos rfl]
    show _ + 0 + 1 = _
    omega
theorem brk_RI {p : Pat} {t : List Nat} (h : ∀ n, cnt t ≤ n → RA n p t) (h0 : ∀ n, cnt t ≤ n → RI n p t) : ∀ (k n : Nat), cnt (K13.brk k t) ≤ n → RI n p (K13.brk k t)
  | 0, n, hn => h0 n hn
  | k + 1, n, hn => by
    rw [cnt_brk] at hn
    cases n with
    | zero => omega
    | succ n =>
      refine RA.brk (n := n) ?_
      exact (brk_RI h h0 k n (by rw [cnt_brk]; omega)).rc.ra
theorem brk_RI1 {p : Pat} {t : List Nat} (h : ∀ n, cnt t ≤ n → RA n p t) : ∀ (k n : Nat), cnt (K13.brk (k + 1) t) ≤ n → RI n p (K13.brk (k + 1) t)
  | 0, n, hn => by
    rw [cnt_brk] at hn
    cases n with
    | zero => omega
    | succ n => exact RA.brk (h n (by omega))
  | k + 1, n, hn => by
    rw [cnt_brk] at hn
    cases n with
    | zero => omega
    | succ n => exact RA.brk (brk_RI1 h k n (by rw [cnt_brk]; omega)).rc.ra
/-- how a text in a context is read -/
def RX (n c : Nat) (p : Pat) (t : List Nat) : Prop := RA n p t ∧ (c = 3 ∨ c = 4 → RC n p t) ∧ (c = 1 ∨ c = 2 → RI n p t)
theorem RI.rx {n c : Nat} {p : Pat} {t : List Nat} (h : RI n p t) : RX n c p t := ⟨h.rc.ra, fun _ => h.rc, fun _ => h⟩
theorem base_item {n : Nat} {s r : List Nat} {p : Pat} (h : baseOf (inn n) s = .ok p r) : itemOf (inn n) s = .ok (stars p r).1 (stars p r).2 := by
  unfold itemOf
  rw [h]
theorem LT.read {loose : Bool} {c : Nat} {p : Pat} {t : List Nat} (h : LT loose c p t) : p.rd → ∀ n, cnt t ≤ n → RX n c p t := by
  induction h with
  | @word c k l hk =>
    intro hp n hn
    refine RI.rx (brk_RI (fun n _ => RI.rc ?_ |>.ra) (fun n _ => ?_) k n hn)
    all_goals
      intro r
      refine base_item ?_
      show leafOf false ((l ++ [62]) ++ r) = _
      rw [List.append_assoc]
      exact leaf_word hp
  | @one c k l hk =>
    intro hp n hn
    refine RI.rx (brk_RI (fun n _ => RI.rc ?_ |>.ra) (fun n _ => ?_) k n hn)
    all_goals
      intro r
      refine base_item ?_
      show leafOf true ((l ++ [93]) ++ r) = _
      rw [List.append_assoc]
      exact leaf_one hp.1 hp.2.1 hp.2.2
  | @star c k p t hk _ ih =>
    intro hp n hn
    have h0 : ∀ n, cnt (t ++ [42]) ≤ n → RI n (.star p) (t ++ [42]) := fun n hn r => by
      rw [cnt_app] at hn
      rw [List.append_assoc, (ih hp n (by omega)).2.2 (.inl rfl) ([42] ++ r)]
      rfl
    exact RI.rx (brk_RI (fun n hn => (h0 n hn).rc.ra) h0 k n hn)
  | @seq c k p q t u hk _ _ ih1 ih2 =>
    intro hp n hn
    have h0 : ∀ n, cnt (t ++ u) ≤ n → RC n (.two true p q) (t ++ u) := fun n hn => by
      rw [cnt_app] at hn
      have h1 := (ih1 hp.1 n (by omega)).2.2 (.inr rfl)
      obtain ⟨ps, e, ne, h2⟩ := (ih2 hp.2 n (by omega)).2.1 (.inl rfl)
      refine ⟨p :: ps, ?_, by simp, fun r hr => ?_⟩
      · cases ps with
        | nil => exact absurd rfl ne
        | cons x ps => rw [fold, e]
      · obtain ⟨p0, v, g1, w, rfl, g2⟩ := h2 r hr
        have st : starts (u ++ r) = true ∧ NoStar (u ++ r) := by
          have : ∃ x y, itemOf (inn n) (u ++ r) = .ok x y := ⟨_, _, g1⟩
          obtain ⟨x, y, hxy⟩ := this
          cases hu : u ++ r with
          | nil => rw [hu] at hxy; cases hxy
          | cons d z =>
            rw [hu] at hxy
            have hd : d = 60 ∨ d = 91 ∨ d = 40 := by
              apply Classical.byContradiction
              intro hno
              have eb : baseOf (inn n) (d :: z) = .bad (d :: z) := by
                unfold baseOf
                split
                · rename_i e; injection e with e _; exact absurd (.inl e) hno
                · rename_i e; injection e with e _; exact absurd (.inr (.inl e)) hno
                · rename_i e; injection e with e _; exact absurd (.inr (.inr e)) hno
                · rfl
              unfold itemOf at hxy
              rw [eb] at hxy
              cases hxy
            exact ⟨by rcases hd with rfl | rfl | rfl <;> rfl, fun d' z' e => by injection e with e _; omega⟩
        refine ⟨p, u ++ r, by rw [List.append_assoc, h1, stars_stop st.2], p0 :: w, rfl, fun k a hk => ?_⟩
        have hlt := (itemOf_suf (inn_suf n) (u ++ r)).2
        rw [g1] at hlt
        have hlt' : v.length < (u ++ r).length := hlt
        cases k with
        | zero => omega
        | succ k =>
          unfold chainOf
          rw [if_pos st.1, g1]
          dsimp only
          rw [g2 k (a ++ [p0]) (by omega), List.append_assoc]
          rfl
    cases k with
    | zero =>
      refine ⟨(h0 n hn).ra, fun _ => h0 n hn, fun hc => ?_⟩
      have := hk.1
      simp only [need, if_pos hc] at this
      omega
    | succ k => exact RI.rx (brk_RI1 (fun n hn => (h0 n hn).ra) k n hn)
  | @alt c k p q t u hk _ _ ih1 ih2 =>
    intro hp n hn
    have h0 : ∀ n, cnt (t ++ (124 :: u)) ≤ n → RA n (.two false p q) (t ++ (124 :: u)) := fun n hn => by
      rw [cnt_app, cnt_cons] at hn
      have h1 := (ih1 hp.1 n (by omega)).2.1 (.inr rfl)
      obtain ⟨ps, e, ne, h2⟩ := (ih2 hp.2 n (by omega)).1
      refine ⟨p :: ps, ?_, by simp, fun r hr => ?_⟩
      · cases ps with
        | nil => exact absurd rfl ne
        | cons x ps => rw [fold, e]
      · obtain ⟨p0, v, g1, w, rfl, g2⟩ := h2 r hr
        refine ⟨p, 124 :: (u ++ r), by rw [List.append_assoc]; exact h1.chainT ⟨rfl, fun d z e => by injection e with e _; omega⟩, p0 :: w, rfl, fun k a hk => ?_⟩
        have hlt := (chainT_suf (inn_suf n) (u ++ r)).2
        rw [g1] at hlt
        have hlt' : v.length < (u ++ r).length := hlt
        rw [List.length_cons] at hk
        cases k with
        | zero => omega
        | succ k =>
          show (match chainT (inn n) (u ++ r) with | .ok p r => altOf (inn n) k (a ++ [p]) r | .bad r => .bad r) = _
          rw [g1]
          dsimp only
          rw [g2 k (a ++ [p0]) (by omega), List.append_assoc]
          rfl
    cases k with
    | zero =>
      refine ⟨h0 n hn, fun hc => ?_, fun hc => ?_⟩
      · have := hk.1
        simp only [need] at this
        rw [if_pos (by omega)] at this
        omega
      · have := hk.1
        simp only [need] at this
        rw [if_pos (by omega)] at this
        omega
    | succ k => exact RI.rx (brk_RI1 h0 k n hn)
theorem LT.readP {loose : Bool} {p : Pat} {t : List Nat} (h : LT loose 0 p t) (hp : p.rd) {n : Nat} (hn : cnt t ≤ n) : K13.readP (n + 1) t = .ok p [] := by
  have h1 := (h.read hp n hn).1.patT (r := []) (fun c r e => by cases e)
  rw [List.append_nil] at h1
  unfold K13.readP
  rw [show inn (n + 1) t = patT (inn n) t from rfl, h1]
end
end K13
namespace K13
open PySem PySem.Spec PyProof.Rows L2
local macro_rules | `(tactic| walk_at "con") => `(tactic| first | with_reducible refine Gx.conE K13.ks0 ?_ | with_reducible refine Gx.conE K13.ks1 ?_ | with_reducible refine Gx.conE K13.ks2 ?_ | with_reducible refine Gx.conE K13.ks3 ?_ | with_reducible refine Gx.conE K13.ks4 ?_ | with_reducible refine Gx.conE K13.ks5 ?_ | with_reducible refine Gx.conE K13.ks6 ?_ | with_reducible refine Gx.conE K13.ks7 ?_ | with_reducible refine Gx.conE K13.ks8 ?_ | with_reducible refine Gx.conE K13.ks9 ?_ | with_reducible refine Gx.conE K13.ks10 ?_ | with_reducible refine Gx.conE K13.ks11 ?_ | with_reducible refine Gx.conE K13.ks12 ?_ | with_reducible refine Gx.conE K13.ks13 ?_ | with_reducible refine Gx.conE K13.ks14 ?_ | with_reducible refine Gx.conE K13.ks15 ?_ | with_reducible refine Gx.conE K13.ks16 ?_ | with_reducible refine Gx.conE K13.ks17 ?_ | with_reducible refine Gx.conE K13.ks18 ?_ | with_reducible refine Gx.conE K13.ks19 ?_ | with_reducible refine Gx.conE K13.ks20 ?_ | with_reducible refine Gx.conE K13.ks21 ?_ | with_reducible refine Gx.conE K13.ks22 ?_ | with_reducible refine Gx.conE K13.ks23 ?_ | with_reducible refine Gx.conE K13.ks24 ?_ | with_reducible refine Gx.conE K13.ks25 ?_ | with_reducible refine Gx.conE K13.ks26 ?_ | with_reducible refine Gx.conE K13.ks27 ?_ | with_reducible refine Gx.conE K13.ks28 ?_ | with_reducible refine Gx.conE K13.ks29 ?_ | with_reducible refine Gx.conE K13.ks30 ?_ | with_reducible refine Gx.conE K13.ks31 ?_ | with_reducible refine Gx.conE K13.ks32 ?_ | with_reducible refine Gx.conE K13.ks33 ?_ | with_reducible refine Gx.conE K13.ks34 ?_ | with_reducible refine Gx.conE K13.ks35 ?_ | with_reducible refine Gx.conE K13.ks36 ?_ | with_reducible refine Gx.conE K13.ks37 ?_ | with_reducible refine Gx.conE K13.ks38 ?_ | with_reducible refine Gx.conE K13.ks39 ?_ | with_reducible refine Gx.conE K13.ks40 ?_ | with_reducible refine Gx.conE K13.ks41 ?_ | with_reducible refine Gx.conE K13.ks42 ?_ | with_reducible refine Gx.conE K13.ks43 ?_ | with_reducible refine Gx.conE K13.ks44 ?_ | with_reducible refine Gx.conE K13.ks45 ?_ | with_reducible refine Gx.conE K13.ks46 ?_ | with_reducible refine Gx.conE K13.ks47 ?_ | with_reducible refine Gx.conE K13.ks48 ?_ | with_reducible refine Gx.conE K13.ks49 ?_ | with_reducible refine Gx.conE K13.ks50 ?_ | with_reducible refine Gx.conE K13.ks51 ?_ | with_reducible refine Gx.conE K13.ks52 ?_ | with_reducible refine Gx.conE K13.ks53 ?_ | with_reducible refine Gx.conE K13.ks54 ?_ | with_reducible refine Gx.conE K13.ks55 ?_ | with_reducible refine Gx.conE K13.ks56 ?_ | with_reducible refine Gx.conE K13.ks57 ?_ | with_reducible refine Gx.conE K13.ks58 ?_ | with_reducible refine Gx.conE K13.ks59 ?_ | with_reducible refine Gx.conE K13.ks60 ?_ | with_reducible refine Gx.conE K13.ks61 ?_ | with_reducible refine Gx.conE K13.ks62 ?_ | with_reducible refine Gx.conE K13.ks63 ?_)
section
variable {P : Program} {w : World} {K : PySem.W.Frag} {mg : Str → Option Value} {base : Heap}
theorem G_BadText_init (T : Txt K mg w) : FnOk P w K mg base CX0 1 T.f_BadText_init T.fd_BadText_init ["self", "index"] (Gx.spOi K T.a_BadText "index") := by
  refine T.F_BadText_init.ok sc_BadText_init (fun vs H Q E h => ?_) (fun cdv A outer s H vs Q E hr h => ?_)
  · obtain ⟨a, v, rfl, _⟩ := h
    rfl
  · obtain ⟨a, v, rfl, ha, q⟩ := h
    refine ⟨_, ((pss_one (ps_ost (pv 0) (pv 1)))), ?_⟩
    rw [st_BadText_init]
    try dsimp only [cxOf]
    exact ⟨_, rfl, _, rfl, a, T.a_BadText, rfl, T.o_BadText, T.on_BadText, .inl ⟨ha, fun dx nd ne => q dx nd ne⟩⟩
/-- the text as it is written -/
def plain : Nat → Pat → List Nat
  | _, .word l => 60 :: (l ++ [62])
  | _, .one l => 91 :: (l ++ [93])
  | _, .star p => plain 1 p ++ [42]
  | c, .two true p q => brk (need c (.two true p q)) (plain 2 p ++ plain 3 q)
  | c, .two false p q => brk (need c (.two false p q)) (plain 4 p ++ (124 :: plain 5 q))
theorem plain_05 (p : Pat) : plain 0 p = plain 5 p := by
  cases p with
  | two b p q =>
    cases b <;> simp only [plain, need] <;> rfl
  | _ => rfl
def Pat.sz : Pat → Nat
  | .word l => l.length + 4
  | .one l => l.length + 4
  | .star p => p.sz + 3
  | .two _ p q => p.sz + q.sz + 3
theorem brk_len (k : Nat) (t : List Nat) : (brk k t).length = t.length + 2 * k := by
  induction k with
  | zero => rfl
  | succ k ih =>
    show (40 :: (brk k t ++ [41])).length = _
    rw [List.length_cons, List.length_append, ih]
    simp
    omega
theorem need_le (c : Nat) (p : Pat) : need c p ≤ 1 := by
  cases p with
  | two b p q =>
    cases b
    · simp only [need]; split <;> omega
    · simp only [need]; split <;> omega
  | _ => simp [need]
theorem plain_len : ∀ (p : Pat) (c : Nat), (plain c p).length ≤ p.sz
  | .word l, c => by simp [plain, Pat.sz]
  | .one l, c => by simp [plain, Pat.sz]
  | .star p, c => by have := plain_len p 1; simp only [plain, Pat.sz, List.length_append, List.length_singleton]; omega
  | .two true p q, c => by
    have h1 := plain_len p 2
    have h2 := plain_len q 3
    have h3 := need_le c (.two true p q)
    simp only [plain, Pat.sz, brk_len, List.length_append]
    omega
  | .two false p q, c => by
    have h1 := plain_len p 4
    have h2 := plain_len q 5
    have h3 := need_le c (.two false p q)
    simp only [plain, Pat.sz, brk_len, List.length_append, List.length_cons]
    omega
/-- the kinds that want brackets in a context -/
def kindsOf (c : Nat) : List (List Nat) := if c = 1 ∨ c = 2 then [seqS, altS] else [altS]
def Pat.tag : Pat → List Nat
  | .word _ => wordS
  | .one _ => oneS
  | .star _ => starS
  | .two b _ _ => kindS b
theorem plain_enc (p : Pat) {c : Nat} (hc : 1 ≤ c ∧ c ≤ 4) : plain c p = if p.tag ∈ kindsOf c then 40 :: (plain 0 p ++ [41]) else plain 0 p := by
  have w1 : ∀ l ∈ [seqS, altS], wordS ≠ l ∧ oneS ≠ l ∧ starS ≠ l := by decide
  have hsub : ∀ l ∈ kindsOf c, l ∈ [seqS, altS] := fun l hl => by
    unfold kindsOf at hl
    split at hl
    · exact hl
    · simp only [List.mem_singleton] at hl; simp [hl]
  cases p with
  | word l => rw [if_neg (show ¬ (Pat.word l).tag ∈ kindsOf c from fun h => (w1 _ (hsub _ h)).1 rfl)]; rfl
  | one l => rw [if_neg (show ¬ (Pat.one l).tag ∈ kindsOf c from fun h => (w1 _ (hsub _ h)).2.1 rfl)]; rfl
  | star p => rw [if_neg (show ¬ (Pat.star p).tag ∈ kindsOf c from fun h => (w1 _ (hsub _ h)).2.2 rfl)]; rfl
  | two b p q =>
    cases b with
    | true =>
      by_cases h : c = 1 ∨ c = 2
      · rw [if_pos (by unfold kindsOf; rw [if_pos h]; show seqS ∈ _; simp)]
        simp only [plain, need, if_pos h]
        rfl
      · rw [if_neg (by unfold kindsOf; rw [if_neg h]; show ¬ seqS ∈ _; decide)]
        simp only [plain, need, if_neg h]
        rfl
    | false =>
      rw [if_pos (by unfold kindsOf; show altS ∈ _; split <;> simp)]
      simp only [plain, need]
      rw [if_pos (by omega), if_neg (by omega)]
      rfl
theorem inV_strs (a : List Nat) (ls : List (List Nat)) : inV (.str (Gx.mkS a)) ((ls.map Gx.mkS).map V.str) = decide (a ∈ ls) := by
  unfold inV
  induction ls with
  | nil => simp
  | cons x ls ih =>
    rw [List.map_cons, List.map_cons, List.any_cons, ih]
    show ((Gx.mkS x == Gx.mkS a) || _) = _
    by_cases e : x = a
    · subst e
      simp
    · have : (Gx.mkS x == Gx.mkS a) = false := by simp [Gx.mkS_inj, e]
      rw [this]
      simp [Ne.symm e]
theorem flat_strs (ls : List (List Nat)) : ((ls.map Gx.mkS).map V.str).all flatV = true := by
  induction ls with
  | nil => rfl
  | cons x ls ih => rw [List.map_cons, List.map_cons, List.all_cons, ih]; rfl
theorem inStr {H : Hp} {Q : VK} {p : Addr} {a : List Nat} {ls : List (List Nat)} (h : SqT K H p ((ls.map Gx.mkS).map V.str)) (q : Q (.bl (decide (a ∈ ls))) H) : rIn K false (.str (Gx.mkS a)) (.ref p) H Q := ⟨p, _, rfl, .inr h, rfl, flat_strs ls, by rw [inV_strs]; simpa using q⟩
theorem pat_inv {H : Hp} {x : V} {p : Pat} (h : Dp K H x (patD p)) : ∃ t, x = .ref t ∧ match p with
    | .word l => SqT K H t [.str (Gx.mkS wordS), .str (Gx.mkS l)]
    | .one l => SqT K H t [.str (Gx.mkS oneS), .str (Gx.mkS l)]
    | .star p => ∃ y, SqT K H t [.str (Gx.mkS starS), y] ∧ Dp K H y (patD p)
    | .two b p q => ∃ y z, SqT K H t [.str (Gx.mkS (kindS b)), y, z] ∧ Dp K H y (patD p) ∧ Dp K H z (patD q) := by
  cases p with
  | word l =>
    cases h with
    | @tup t xs _ hs ha =>
      cases ha with
      | cons h1 ha =>
        cases ha with
        | cons h2 ha =>
          cases ha
          cases h1
          cases h2
          exact ⟨t, rfl, hs⟩
  | one l =>
    cases h with
    | @tup t xs _ hs ha =>
      cases ha with
      | cons h1 ha =>
        cases ha with
        | cons h2 ha =>
          cases ha
          cases h1
          cases h2
          exact ⟨t, rfl, hs⟩
  | star p =>
    cases h with
    | @tup t xs _ hs ha =>
      cases ha with
      | cons h1 ha =>
        cases ha with
        | cons h2 ha =>
          cases ha
          cases h1
          exact ⟨t, rfl, _, hs, h2⟩
  | two b p q =>
    cases h with
    | @tup t xs _ hs ha =>
      cases ha with
      | cons h1 ha =>
        cases ha with
        | cons h2 ha =>
          cases ha with
          | cons h3 ha =>
            cases ha
            cases h1
            exact ⟨t, rfl, _, _, hs, h2, h3⟩
theorem pat_tag {H : Hp} {x : V} {p : Pat} (h : Dp K H x (patD p)) : ∃ t xs, x = .ref t ∧ SqT K H t (.str (Gx.mkS p.tag) :: xs) := by
  obtain ⟨t, rfl, h⟩ := pat_inv h
  cases p with
  | word l => exact ⟨t, _, rfl, h⟩
  | one l => exact ⟨t, _, rfl, h⟩
  | star p => obtain ⟨y, h, _⟩ := h; exact ⟨t, _, rfl, h⟩
  | two b p q => obtain ⟨y, z, h, _⟩ := h; exact ⟨t, _, rfl, h⟩
def spWr (K : PySem.W.Frag) (n : Nat) : Sp := fun vs H Q _ => ∃ (x : V) (p : Pat), vs = [x] ∧ Dp K H x (patD p) ∧ p.depth ≤ n ∧ p.sz ≤ 100000 ∧ ∀ H', Same H H' → Q (.str (Gx.mkS (plain 0 p))) H'
def spEn (K : PySem.W.Frag) (n : Nat) : Sp := fun vs H Q _ => ∃ (x : V) (k : Addr) (p : Pat) (c : Nat), vs = [x, .ref k] ∧ Dp K H x (patD p) ∧ SqT K H k (((kindsOf c).map Gx.mkS).map V.str) ∧ 1 ≤ c ∧ c ≤ 4 ∧ p.depth ≤ n ∧ p.sz ≤ 100000 ∧ ∀ H', Same H H' → Q (.str (Gx.mkS (plain c p))) H'
theorem G_enclosed (T : Txt K mg w) {n k : Nat} (G_write_pattern : FnOk P w K mg base CX0 k T.f_write_pattern T.fd_write_pattern ["pattern"] (spWr K n)) : FnOk P w K mg base CX0 (k + 1) T.f_enclosed T.fd_enclosed ["pattern", "kinds"] (spEn K n) := by
  refine T.F_enclosed.ok sc_enclosed (fun vs H Q E h => ?_) (fun cdv A outer s H vs Q E hr h => ?_)
  · obtain ⟨x, k, p, c, rfl, _⟩ := h
    rfl
  · obtain ⟨x, kk, p, c, rfl, hp, hk, hc1, hc2, hd, hs, q⟩ := h
    refine ⟨_, ((pss_cons (ps_set (i := 2) sc_enclosed.nd rfl (Or.inl rfl) (pe_call G_write_pattern (hr.mono (by first | decide | omega)) (by rfl) T.g_write_pattern T.F_write_pattern.kp T.b_write_pattern .nil pass0 (pa_cons (pv 0) pa_nil)))
  (pss_cons (ps_if (pt_cmpR op_in_seq (pe_ix ix_tup (pv 0) pe_int (fun _ _ => rfl)) (pv 1) rfl)
  (pss_one (ps_ret (pe_op Gx.op_addS (pe_op Gx.op_addS pe_str (pv 2)) pe_str)))
  pss_nil)
  (pss_one (ps_ret (pv 2)))))), ?_⟩
    rw [st_enclosed]
    try dsimp only [cxOf]
    walk_at "g"
    refine ⟨x, p, rfl, hp, hd, hs, fun H1 s1 => ?_⟩
    obtain ⟨t, xs, rfl, ht⟩ := pat_tag (Gx.dp_same s1 _ _ hp)
    have hk1 := s1.seqT hk
    have hl := plain_len p 0
    walk_at "g"
    refine Gx.ixT ht (Gx.atI_of (k := 0) rfl rfl) ?_
    walk_at "g"
    refine inStr hk1 ?_
    have e := plain_enc p (c := c) ⟨hc1, hc2⟩
    walk_at "g"
    refine Gx.iteD (fun hm => ?_) (fun hm => ?_)
    · rw [if_pos hm] at e
      rw [e] at q
      walk_at "g"
      exact q H1 s1
    · rw [if_neg hm] at e
      rw [e] at q
      walk_at "g"
      exact q H1 s1
theorem G_write_pattern (T : Txt K mg w) : ∀ n, FnOk P w K mg base CX0 (2 * n + 2) T.f_write_pattern T.fd_write_pattern ["pattern"] (spWr K n)
  | 0 => ⟨fun _ _ _ _ h => by obtain ⟨x, p, rfl, _⟩ := h; rfl, fun A outer s H args us vs Q E hr h0 hb r h => by
      obtain ⟨x, p, rfl, _, hd, _⟩ := h
      have : 1 ≤ p.depth := by cases p <;> (unfold Pat.depth; omega)
      omega⟩
  | n + 1 => by
    have G0 := G_write_pattern T n
    have G_enclosed := G_enclosed T G0
    have G_write_pattern := G0
    refine T.F_write_pattern.ok sc_write_pattern (fun vs H Q E h => ?_) (fun cdv A outer s H vs Q E hr h => ?_)
    · obtain ⟨x, p, rfl, _⟩ := h
      rfl
    · obtain ⟨x, p, rfl, hp, hd, hs, q⟩ := h
      refine ⟨_, ((pss_cons (ps_set (i := 1) sc_write_pattern.nd rfl (Or.inl rfl) (pe_ix ix_tup (pv 0) pe_int (fun _ _ => rfl)))
  (pss_cons (ps_if (pt_cmpR op_eq (pv 1) pe_str (nomark _))
  (pss_one (ps_ret (pe_op Gx.op_addS (pe_op Gx.op_addS pe_str (pe_ix ix_tup (pv 0) pe_int (fun _ _ => rfl))) pe_str)))
  pss_nil)
  (pss_cons (ps_if (pt_cmpR op_eq (pv 1) pe_str (nomark _))
  (pss_one (ps_ret (pe_op Gx.op_addS (pe_op Gx.op_addS pe_str (pe_ix ix_tup (pv 0) pe_int (fun _ _ => rfl))) pe_str)))
  pss_nil)
  (pss_cons (ps_if (pt_cmpR op_eq (pv 1) pe_str (nomark _))
  (pss_one (ps_ret (pe_op Gx.op_addS (pe_call G_enclosed (hr.mono (by first | decide | omega)) (by rfl) T.g_enclosed T.F_enclosed.kp T.b_enclosed .nil pass0 (pa_cons (pe_ix ix_tup (pv 0) pe_int (fun _ _ => rfl)) (pa_cons (pe_tup (pa_cons pe_str (pa_cons pe_str pa_nil))) pa_nil))) pe_str)))
  pss_nil)
  (pss_cons (ps_if (pt_cmpR op_eq (pv 1) pe_str (nomark _))
  (pss_one (ps_ret (pe_op Gx.op_addS (pe_call G_enclosed (hr.mono (by first | decide | omega)) (by rfl) T.g_enclosed T.F_enclosed.kp T.b_enclosed .nil pass0 (pa_cons (pe_ix ix_tup (pv 0) pe_int (fun _ _ => rfl)) (pa_cons (pe_tup (pa_cons pe_str (pa_cons pe_str pa_nil))) pa_nil))) (pe_call G_enclosed (hr.mono (by first | decide | omega)) (by rfl) T.g_enclosed T.F_enclosed.kp T.b_enclosed .nil pass0 (pa_cons (pe_ix ix_tup (pv 0) pe_int (fun _ _ => rfl)) (pa_cons (pe_tup (pa_cons pe_str pa_nil)) pa_nil))))))
  pss_nil)
  (pss_one (ps_ret (pe_op Gx.op_addS (pe_op Gx.op_addS (pe_call G_enclosed (hr.mono (by first | decide | omega)) (by rfl) T.g_enclosed T.F_enclosed.kp T.b_enclosed .nil pass0 (pa_cons (pe_ix ix_tup (pv 0) pe_int (fun _ _ => rfl)) (pa_cons (pe_tup (pa_cons pe_str pa_nil)) pa_nil))) pe_str) (pe_call G_write_pattern (hr.mono (by first | decide | omega)) (by rfl) T.g_write_pattern T.F_write_pattern.kp T.b_write_pattern .nil pass0 (pa_cons (pe_ix ix_tup (pv 0) pe_int (fun _ _ => rfl)) pa_nil))))))))))), ?_⟩
      rw [st_write_pattern]
      try dsimp only [cxOf]
      obtain ⟨t, rfl, ht⟩ := pat_inv hp
      cases p with
      | word l =>
        have hs' : l.length + 4 ≤ 100000 := hs
        dsimp only at ht
        walk_at "g"
        rw [if_pos (by decide)]
        walk_at "g"
        exact q H (Same.refl H)
      | one l =>
        have hs' : l.length + 4 ≤ 100000 := hs
        dsimp only at ht
        walk_at "g"
        rw [if_neg (by decide)]
        walk_at "g"
        rw [if_pos (by decide)]
        walk_at "g"
        exact q H (Same.refl H)
      | star p =>
        have hs' : p.sz + 3 ≤ 100000 := hs
        have hd' : p.depth + 1 ≤ n + 1 := hd
        have hl := plain_len p 1
        obtain ⟨y, ht, hy⟩ := ht
        walk_at "g"
        rw [if_neg (by decide)]
        walk_at "g"
        rw [if_neg (by decide)]
        walk_at "g"
        rw [if_pos (by decide)]
        walk_at "g"
        refine Gx.newT (by simp) (fun kk H1 E1 => ?_)
        walk_at "g"
        refine ⟨y, kk, p, 1, rfl, Gx.dp_same E1.same _ _ hy, SqT.of E1.at_, by omega, by omega, by omega, by omega, fun H2 s2 => ?_⟩
        walk_at "g"
        exact q H2 (E1.same.trans s2)
      | two b p q' =>
        have hs' : p.sz + q'.sz + 3 ≤ 100000 := hs
        have hd' : max p.depth q'.depth + 1 ≤ n + 1 := hd
        obtain ⟨y, z, ht, hy, hz⟩ := ht
        cases b with
        | true =>
          rw [show kindS true = seqS from rfl] at ht
          have hl1 := plain_len p 2
          have hl2 := plain_len q' 3
          walk_at "g"
          rw [if_neg (by decide)]
          walk_at "g"
          rw [if_neg (by decide)]
          walk_at "g"
          rw [if_neg (by decide)]
          walk_at "g"
          rw [if_pos (by decide)]
          walk_at "g"
          refine Gx.newT (by simp) (fun kk H1 E1 => ?_)
          walk_at "g"
          refine ⟨y, kk, p, 2, rfl, Gx.dp_same E1.same _ _ hy, SqT.of E1.at_, by omega, by omega, by omega, by omega, fun H2 s2 => ?_⟩
          have s12 := E1.same.trans s2
          have ht2 := s12.seqT ht
          walk_at "g"
          refine Gx.newT (by simp) (fun kk2 H3 E3 => ?_)
          walk_at "g"
          refine ⟨z, kk2, q', 3, rfl, Gx.dp_same (s12.trans E3.same) _ _ hz, SqT.of E3.at_, by omega, by omega, by omega, by omega, fun H4 s4 => ?_⟩
          walk_at "g"
          have := q H4 ((s12.trans E3.same).trans s4)
          simp only [plain, need] at this
          rw [if_neg (by omega)] at this
          simpa [brk] using this
        | false =>
          rw [show kindS false = altS from rfl] at ht
          have hl1 := plain_len p 4
          have hl2 := plain_len q' 5
          walk_at "g"
          rw [if_neg (by decide)]
          walk_at "g"
          rw [if_neg (by decide)]
          walk_at "g"
          rw [if_neg (by decide)]
          walk_at "g"
          rw [if_neg (by decide)]
          walk_at "g"
          refine Gx.newT (by simp) (fun kk H1 E1 => ?_)
          walk_at "g"
          refine ⟨y, kk, p, 4, rfl, Gx.dp_same E1.same _ _ hy, SqT.of E1.at_, by omega, by omega, by omega, by omega, fun H2 s2 => ?_⟩
          have s12 := E1.same.trans s2
          have ht2 := s12.seqT ht
          walk_at "g"
          refine ⟨z, q', rfl, Gx.dp_same s12 _ _ hz, by omega, by omega, fun H4 s4 => ?_⟩
          have e5 : plain 0 q' = plain 5 q' := plain_05 q'
          rw [e5]
          walk_at "g"
          have := q H4 (s12.trans s4)
          simp only [plain, need] at this
          rw [if_neg (by omega)] at this
          simpa [brk] using this
end
end K13
namespace K13
open PySem PySem.Spec PyProof.Rows L2
local macro_rules | `(tactic| walk_at "con") => `(tactic| first | with_reducible refine Gx.conE K13.ks0 ?_ | with_reducible refine Gx.conE K13.ks1 ?_ | with_reducible refine Gx.conE K13.ks2 ?_ | with_reducible refine Gx.conE K13.ks3 ?_ | with_reducible refine Gx.conE K13.ks4 ?_ | with_reducible refine Gx.conE K13.ks5 ?_ | with_reducible refine Gx.conE K13.ks6 ?_ | with_reducible refine Gx.conE K13.ks7 ?_ | with_reducible refine Gx.conE K13.ks8 ?_ | with_reducible refine Gx.conE K13.ks9 ?_ | with_reducible refine Gx.conE K13.ks10 ?_ | with_reducible refine Gx.conE K13.ks11 ?_ | with_reducible refine Gx.conE K13.ks12 ?_ | with_reducible refine Gx.conE K13.ks13 ?_ | with_reducible refine Gx.conE K13.ks14 ?_ | with_reducible refine Gx.conE K13.ks15 ?_ | with_reducible refine Gx.conE K13.ks16 ?_ | with_reducible refine Gx.conE K13.ks17 ?_ | with_reducible refine Gx.conE K13.ks18 ?_ | with_reducible refine Gx.conE K13.ks19 ?_ | with_reducible refine Gx.conE K13.ks20 ?_ | with_reducible refine Gx.conE K13.ks21 ?_ | with_reducible refine Gx.conE K13.ks22 ?_ | with_reducible refine Gx.conE K13.ks23 ?_ | with_reducible refine Gx.conE K13.ks24 ?_ | with_reducible refine Gx.conE K13.ks25 ?_ | with_reducible refine Gx.conE K13.ks26 ?_ | with_reducible refine Gx.conE K13.ks27 ?_ | with_reducible refine Gx.conE K13.ks28 ?_ | with_reducible refine Gx.conE K13.ks29 ?_ | with_reducible refine Gx.conE K13.ks30 ?_ | with_reducible refine Gx.conE K13.ks31 ?_ | with_reducible refine Gx.conE K13.ks32 ?_ | with_reducible refine Gx.conE K13.ks33 ?_ | with_reducible refine Gx.conE K13.ks34 ?_ | with_reducible refine Gx.conE K13.ks35 ?_ | with_reducible refine Gx.conE K13.ks36 ?_ | with_reducible refine Gx.conE K13.ks37 ?_ | with_reducible refine Gx.conE K13.ks38 ?_ | with_reducible refine Gx.conE K13.ks39 ?_ | with_reducible refine Gx.conE K13.ks40 ?_ | with_reducible refine Gx.conE K13.ks41 ?_ | with_reducible refine Gx.conE K13.ks42 ?_ | with_reducible refine Gx.conE K13.ks43 ?_ | with_reducible refine Gx.conE K13.ks44 ?_ | with_reducible refine Gx.conE K13.ks45 ?_ | with_reducible refine Gx.conE K13.ks46 ?_ | with_reducible refine Gx.conE K13.ks47 ?_ | with_reducible refine Gx.conE K13.ks48 ?_ | with_reducible refine Gx.conE K13.ks49 ?_ | with_reducible refine Gx.conE K13.ks50 ?_ | with_reducible refine Gx.conE K13.ks51 ?_ | with_reducible refine Gx.conE K13.ks52 ?_ | with_reducible refine Gx.conE K13.ks53 ?_ | with_reducible refine Gx.conE K13.ks54 ?_ | with_reducible refine Gx.conE K13.ks55 ?_ | with_reducible refine Gx.conE K13.ks56 ?_ | with_reducible refine Gx.conE K13.ks57 ?_ | with_reducible refine Gx.conE K13.ks58 ?_ | with_reducible refine Gx.conE K13.ks59 ?_ | with_reducible refine Gx.conE K13.ks60 ?_ | with_reducible refine Gx.conE K13.ks61 ?_ | with_reducible refine Gx.conE K13.ks62 ?_ | with_reducible refine Gx.conE K13.ks63 ?_)
section
variable {P : Program} {w : World} {K : PySem.W.Frag} {mg : Str → Option Value} {base : Heap}
theorem sl1 (l : List Nat) (n : Nat) : (l.take ((n : Int) + 1).toNat).drop (n : Int).toNat = (l.drop n).take 1 := by
  rw [show ((n : Int) + 1).toNat = n + 1 by omega, Int.toNat_natCast, List.drop_take]
  congr 1
  omega
theorem suf_at {l : List Nat} {n : Nat} {c : Nat} {r : List Nat} (h : l.drop n = c :: r) : n < l.length ∧ l.drop (n + 1) = r ∧ l.getD n 0 = c := by
  have hl : n < l.length := by
    apply Classical.byContradiction
    intro z
    rw [List.drop_eq_nil_of_le (by omega)] at h
    cases h
  rw [List.drop_eq_getElem_cons hl] at h
  injection h with h1 h2
  exact ⟨hl, h2, by rw [List.getD_eq_getElem?_getD, List.getElem?_eq_getElem hl]; exact h1⟩
def xdOf (i : Nat) : HO := .xd [(("index" : Str), V.int (i : Nat))]
def sp_behind (K : PySem.W.Frag) (B : Addr) : Sp := fun vs H Q E => ∃ (l : List Nat) (at_ c : Nat), vs = [.str (Gx.mkS l), .int (at_ : Nat), .str (Gx.mkS [c])] ∧ l.length ≤ 100000 ∧
  (∀ r, l.drop at_ = c :: r → Q (.int ((at_ + 1 : Nat) : Nat)) H) ∧ ((∀ r, l.drop at_ ≠ c :: r) → ∀ d, H d = none → E (.ref B) (some d) (upd H d (xdOf at_)))
theorem G_behind (T : Txt K mg w) : FnOk P w K mg base (L2.CX P w) 3 T.f_behind T.fd_behind ["text", "at", "char"] (sp_behind K T.a_BadText) := by
  have G_BadText_init := G_BadText_init (P := P) (w := w) (base := base) T
  refine T.F_behind.okX sc_behind (fun vs H Q E h => ?_) (fun cdv A outer s H vs Q E hr h => ?_)
  · obtain ⟨l, at_, c, rfl, _⟩ := h
    rfl
  · obtain ⟨l, at_, c, rfl, hl, q1, q2⟩ := h
    refine ⟨_, ((pss_cons (ps_if (pt_cmpR op_ne (pe_slice sl_str (pv 0) (po_some (pv 1)) (po_some (pe_op op_add (pv 1) pe_int))) (pv 2) (nomark _))
  (pss_one (ps_raise rfl (takes_of rfl rfl rfl rfl) (pmk_oex T.o_BadText T.oi_BadText T.ot_BadText G_BadText_init (hr.mono (by first | decide | omega)) T.b_BadText_init .nil pass0 rfl T.g_BadText (pa_cons (pv 1) pa_nil))))
  pss_nil)
  (pss_one (ps_ret (pe_op op_add (pv 1) pe_int))))), ?_⟩
    rw [st_behind]
    try dsimp only [cxOf]
    walk_at "g"
    rw [sl1]
    refine Gx.iteDn (fun hn => ?_) (fun he => ?_)
    · refine Gx.mkO ?_ ?_
      · walk_at "g"
        exact ⟨_, rfl, fun d nd => q2 (fun r e => hn (by rw [e]; rfl)) d nd⟩
      · rintro Q1 Q2 h12 ⟨v, e, h⟩
        exact ⟨v, e, h12 _ _ h⟩
    · walk_at "g"
      cases hd : l.drop at_ with
      | nil => rw [hd] at he; cases he
      | cons x r =>
        rw [hd] at he
        cases he
        exact q1 r hd
theorem plc_iff (c : Nat) : (Gx.getS [(":", 0), (";", 1), ("a", 2), ("b", 3), ("c", 4)] (Gx.mkS [c])).isSome = decide (c ∈ sgs) := by
  have hs : ∀ x : Nat, ((Gx.mkS [x] == Gx.mkS [c]) = true) = (x = c) := fun x => by simp [Gx.mkS_inj]
  have e1 : Str.ofString ":" = Gx.mkS [58] := by decide +kernel
  have e2 : Str.ofString ";" = Gx.mkS [59] := by decide +kernel
  have e3 : Str.ofString "a" = Gx.mkS [97] := by decide +kernel
  have e4 : Str.ofString "b" = Gx.mkS [98] := by decide +kernel
  have e5 : Str.ofString "c" = Gx.mkS [99] := by decide +kernel
  rw [e1, e2, e3, e4, e5]
  simp only [Gx.getS, hs]
  unfold sgs
  by_cases h1 : 58 = c
  · subst h1; decide
  · by_cases h2 : 59 = c
    · subst h2; decide
    · by_cases h3 : 97 = c
      · subst h3; decide
      · by_cases h4 : 98 = c
        · subst h4; decide
        · by_cases h5 : 99 = c
          · subst h5; decide
          · simp only [if_neg h1, if_neg h2, if_neg h3, if_neg h4, if_neg h5]
            have : c ∉ [58, 59, 97, 98, 99] := by
              simp only [List.mem_cons, List.not_mem_nil, or_false]
              omega
            rw [decide_eq_false this]
            rfl
theorem plc_nil : (Gx.getS [(":", 0), (";", 1), ("a", 2), ("b", 3), ("c", 4)] (Gx.mkS [])).isSome = false := by decide +kernel
def isSg (s : List Nat) : Bool := match s with
  | [] => false
  | c :: _ => decide (c ∈ sgs)
theorem plc_take (s : List Nat) : ((Gx.getS [(":", 0), (";", 1), ("a", 2), ("b", 3), ("c", 4)] (Gx.mkS (s.take 1))).isSome != false) = isSg s := by
  cases s with
  | nil => rw [List.take_nil, plc_nil]; rfl
  | cons c r =>
    rw [show (c :: r).take 1 = [c] from rfl, plc_iff]
    show (decide (c ∈ sgs) != false) = decide (c ∈ sgs)
    cases decide (c ∈ sgs) <;> rfl
def sp_send (K : PySem.W.Frag) : Sp := fun vs H Q _ => ∃ (l : List Nat) (at_ : Nat), vs = [.str (Gx.mkS l), .int (at_ : Nat)] ∧ at_ ≤ l.length ∧ l.length ≤ 100000 ∧ Q (.int ((l.length - (spanS (l.drop at_)).2.length : Nat) : Nat)) H
theorem G_signs_end (T : Txt K mg w) : FnOk P w K mg base CX0 1 T.f_signs_end T.fd_signs_end ["text", "at"] (sp_send K) := by
  refine T.F_signs_end.ok sc_signs_end (fun vs H Q E h => ?_) (fun cdv A outer s H vs Q E hr h => ?_)
  · obtain ⟨l, at_, rfl, _⟩ := h
    rfl
  · obtain ⟨l, at_, rfl, ha, hl, q⟩ := h
    refine ⟨_, ((pss_cons (ps_while PassesOwn.never (pt_cmpR (Gx.op_inK T.kd_PLACES) (pe_slice sl_str (pv 0) (po_some (pv 1)) (po_some (pe_op op_add (pv 1) pe_int))) (pe_glob (v := .ref T.a_PLACES) rfl T.g_PLACES rfl) rfl)
  (pss_one (ps_aug (i := 1) sc_signs_end.nd rfl (Or.inl rfl) pe_int ip_add)))
  (pss_one (ps_ret (pv 1))))), ?_⟩
    rw [st_signs_end]
    try dsimp only [cxOf]
    walk_at "g"
    refine Gx.wh (W := fun m σ H' => ∃ a : Nat, H' = H ∧ a ≤ l.length ∧ m = l.length - a ∧ (spanS (l.drop a)).2 = (spanS (l.drop at_)).2 ∧ σ = [some (.str (Gx.mkS l)), some (.int (a : Nat))]) (m0 := l.length - at_) ⟨at_, rfl, ha, rfl, rfl, rfl⟩ ?_
    rintro m σ H' ⟨a, rfl, hal, rfl, hsp, rfl⟩
    walk_at "g"
    rw [sl1]
    rw [plc_take]
    cases hd : l.drop a with
    | nil =>
      rw [hd] at hsp
      have hal2 : l.length ≤ a := by
        have := congrArg List.length hd
        rw [List.length_drop] at this
        simp at this
        omega
      rw [show isSg [] = false from rfl]
      walk_at "g"
      rw [← hsp] at q
      have e : (l.length - (spanS []).2.length : Nat) = a := by show l.length - 0 = a; omega
      rw [e] at q
      exact q
    | cons c r =>
      obtain ⟨h1, h2, h3⟩ := suf_at hd
      rw [show isSg (c :: r) = decide (c ∈ sgs) from rfl]
      refine Gx.iteD (fun hc => ?_) (fun hc => ?_)
      · refine ⟨fun σ' H'' => H'' = H' ∧ σ' = [some (.str (Gx.mkS l)), some (.int ((a + 1 : Nat) : Nat))], ?_, ?_⟩
        · rintro σ' H'' ⟨rfl, rfl⟩
          refine ⟨_, ?_, a + 1, rfl, by omega, rfl, ?_, rfl⟩
          · omega
          · rw [h2, ← hsp, hd, spanS, if_pos hc]
        · walk_at "g"
          exact ⟨rfl, rfl⟩
      · walk_at "g"
        rw [← hsp, hd, spanS, if_neg hc] at q
        have e : (l.length - (c :: r).length : Nat) = a := by rw [← hd, List.length_drop]; omega
        dsimp only at q
        rw [e] at q
        exact q
def lastL (x : Nat) : List Nat := if x = 0 then [] else [x]
theorem lt_last (x c : Nat) : decide (lastL x < [c]) = decide (x < c ∨ x = 0) := by
  unfold lastL
  by_cases h : x = 0
  · rw [if_pos h]
    refine decide_eq_decide.mpr ⟨fun _ => .inr h, fun _ => by simp⟩
  · rw [if_neg h]
    refine decide_eq_decide.mpr ⟨fun z => .inl ?_, fun z => List.cons_lt_cons_iff.mpr (.inl (by omega))⟩
    rcases List.cons_lt_cons_iff.mp z with z | ⟨_, z⟩
    · exact z
    · exact absurd z (List.not_lt_nil _)
def sp_aend (K : PySem.W.Frag) : Sp := fun vs H Q _ => ∃ (l : List Nat) (at_ : Nat), vs = [.str (Gx.mkS l), .int (at_ : Nat)] ∧ at_ ≤ l.length ∧ l.length ≤ 100000 ∧ Q (.int ((l.length - (spanA 0 (l.drop at_)).2.length : Nat) : Nat)) H
theorem G_ascending_end (T : Txt K mg w) : FnOk P w K mg base CX0 1 T.f_ascending_end T.fd_ascending_end ["text", "at"] (sp_aend K) := by
  refine T.F_ascending_end.ok sc_ascending_end (fun vs H Q E h => ?_) (fun cdv A outer s H vs Q E hr h => ?_)
  · obtain ⟨l, at_, rfl, _⟩ := h
    rfl
  · obtain ⟨l, at_, rfl, ha, hl, q⟩ := h
    refine ⟨_, ((pss_cons (ps_set (i := 2) sc_ascending_end.nd rfl (Or.inl rfl) pe_str)
  (pss_cons (ps_while PassesOwn.never (PW.pt (pw_and (pt_cmpR (Gx.op_inK T.kd_PLACES) (pe_slice sl_str (pv 0) (po_some (pv 1)) (po_some (pe_op op_add (pv 1) pe_int))) (pe_glob (v := .ref T.a_PLACES) rfl T.g_PLACES rfl) rfl) (pw_and1 (pt_cmpR op_lt_str (pv 2) (pe_ix ix_str (pv 0) (pv 1) (fun _ _ => rfl)) (nomark _)))))
  (pss_cons (ps_set (i := 2) sc_ascending_end.nd rfl (Or.inl rfl) (pe_ix ix_str (pv 0) (pv 1) (fun _ _ => rfl)))
  (pss_one (ps_aug (i := 1) sc_ascending_end.nd rfl (Or.inl rfl) pe_int ip_add))))
  (pss_one (ps_ret (pv 1)))))), ?_⟩
    rw [st_ascending_end]
    try dsimp only [cxOf]
    walk_at "g"
    refine Gx.wh (W := fun m σ H' => ∃ a x : Nat, H' = H ∧ a ≤ l.length ∧ m = l.length - a ∧ (spanA x (l.drop a)).2 = (spanA 0 (l.drop at_)).2 ∧ σ = [some (.str (Gx.mkS l)), some (.int (a : Nat)), some (.str (Gx.mkS (lastL x)))]) (m0 := l.length - at_) ⟨at_, 0, rfl, ha, rfl, rfl, rfl⟩ ?_
    rintro m σ H' ⟨a, x, rfl, hal, rfl, hsp, rfl⟩
    walk_at "g"
    rw [sl1]
    rw [plc_take]
    cases hd : l.drop a with
    | nil =>
      rw [hd] at hsp
      have hal2 : l.length ≤ a := by
        have := congrArg List.length hd
        rw [List.length_drop] at this
        simp at this
        omega
      rw [show isSg [] = false from rfl]
      walk_at "g"
      rw [← hsp] at q
      have e : (l.length - (spanA x []).2.length : Nat) = a := by show l.length - 0 = a; omega
      rw [e] at q
      exact q
    | cons c r =>
      obtain ⟨h1, h2, h3⟩ := suf_at hd
      rw [show isSg (c :: r) = decide (c ∈ sgs) from rfl]
      refine Gx.and2T (p2 := x < c ∨ x = 0) (fun hc Q' hQ' => ?_) ?_
      · walk_at "g"
        rw [Int.toNat_natCast, h3]
        refine ⟨_, _, rfl, rfl, ?_⟩
        rw [show decide ((Gx.mkS (lastL x)).cps.toList < (Gx.mkS [c]).cps.toList) = decide (x < c ∨ x = 0) from lt_last x c]
        exact ⟨_, rfl, hQ'⟩
      have hspan : spanA x (c :: r) = if c ∈ sgs ∧ (x < c ∨ x = 0) then (c :: (spanA c r).1, (spanA c r).2) else ([], c :: r) := by
        rw [spanA]
        by_cases hc : c ∈ sgs
        · have : x = 0 → x < c := fun z => by
            unfold sgs at hc
            simp only [List.mem_cons, List.not_mem_nil, or_false] at hc
            omega
          by_cases hx : x < c
          · rw [if_pos ⟨hc, hx⟩, if_pos ⟨hc, .inl hx⟩]
          · rw [if_neg (fun z => hx z.2), if_neg (fun z => z.2.elim hx fun w => hx (this w))]
        · rw [if_neg (fun z => hc z.1), if_neg (fun z => hc z.1)]
      refine Gx.iteD (fun hc => ?_) (fun hc => ?_)
      · have hc0 : lastL c = [c] := by
          unfold lastL
          rw [if_neg]
          have := hc.1
          unfold sgs at this
          simp only [List.mem_cons, List.not_mem_nil, or_false] at this
          omega
        refine ⟨fun σ' H'' => H'' = H' ∧ σ' = [some (.str (Gx.mkS l)), some (.int ((a + 1 : Nat) : Nat)), some (.str (Gx.mkS (lastL c)))], ?_, ?_⟩
        · rintro σ' H'' ⟨rfl, rfl⟩
          refine ⟨_, ?_, a + 1, c, rfl, by omega, rfl, ?_, rfl⟩
          · omega
          · rw [h2, ← hsp, hd, hspan, if_pos hc]
        · walk_at "g"
          rw [Int.toNat_natCast, h3, hc0]
          exact ⟨rfl, rfl⟩
      · walk_at "g"
        rw [← hsp, hd, hspan, if_neg hc] at q
        have e : (l.length - (c :: r).length : Nat) = a := by rw [← hd, List.length_drop]; omega
        dsimp only at q
        rw [e] at q
        exact q
theorem cutV_m1 (xs : List V) : cutV xs none (some (-1)) = xs.dropLast := by
  unfold cutV
  rw [HT.sIx_none, List.drop_zero, Nat.sub_zero, List.dropLast_eq_take]
  congr 1
  show ((-1 : Int) + (xs.length : Int)).toNat = _
  omega
theorem atI_m1 {xs : List V} {v : V} (h : xs[xs.length - 1]? = some v) : atI xs (-1) = some v := by
  have hl := (List.getElem?_eq_some_iff.mp h).1
  have hne : xs ≠ [] := fun z => by rw [z] at hl; simp at hl
  have e := List.dropLast_concat_getLast hne
  rw [List.getLast_eq_getElem] at e
  have e2 := (List.getElem?_eq_some_iff.mp h).2
  rw [e2] at e
  rw [← e]
  exact atI_last _ _
theorem fold_drop (b : Bool) (ps : List Pat) (i : Nat) (h : i + 1 < ps.length) : fold b (ps.drop i) = .two b (ps.getD i (.word [])) (fold b (ps.drop (i + 1))) := by
  rw [List.drop_eq_getElem_cons (by omega), List.drop_eq_getElem_cons h, fold, List.getD_eq_getElem?_getD, List.getElem?_eq_getElem (by omega)]
  rfl
theorem fold_last (b : Bool) (ps : List Pat) (h : 0 < ps.length) : fold b (ps.drop (ps.length - 1)) = ps.getD (ps.length - 1) (.word []) := by
  rw [List.drop_eq_getElem_cons (by omega), show ps.length - 1 + 1 = ps.length by omega, List.drop_length, fold, List.getD_eq_getElem?_getD, List.getElem?_eq_getElem (by omega)]
  rfl
theorem pats_get {H : Hp} {vs : List V} {ps : List Pat} {i : Nat} (h : DpAll K H vs (ps.map patD)) (hi : i < ps.length) : ∃ v, vs[i]? = some v ∧ Dp K H v (patD (ps.getD i (.word []))) := by
  have hl := Gx.dpAll_len h
  rw [List.length_map] at hl
  have hv := List.getElem?_eq_getElem (l := vs) (i := i) (by omega)
  obtain ⟨d, hd, dv⟩ := Gx.dpAll_get h hv
  rw [List.getElem?_map, List.getElem?_eq_getElem hi] at hd
  cases hd
  refine ⟨_, hv, ?_⟩
  rw [List.getD_eq_getElem?_getD, List.getElem?_eq_getElem hi]
  exact dv
theorem irev {ta : TA} {σ : L2.St} {H : Hp} {R : It → Hp → Prop} (h : ta σ H fun vs H1 => ∃ (a : Addr) (xs : List V), vs = [.ref a] ∧ SqL K H1 a xs ∧ R (Itv K a xs.length) H1) : iRev K ta σ H R := h
def sp_grouped (K : PySem.W.Frag) : Sp := fun vs H Q _ => ∃ (a : Addr) (b : Bool) (xs : List V) (ps : List Pat), vs = [.str (Gx.mkS (kindS b)), .ref a] ∧ SqL K H a xs ∧ DpAll K H xs (ps.map patD) ∧ 0 < ps.length ∧ ∀ H' v, Same H H' → Dp K H' v (patD (fold b ps)) → Q v H'
theorem G_grouped (T : Txt K mg w) : FnOk P w K mg base CX0 1 T.f_grouped T.fd_grouped ["kind", "parts"] (sp_grouped K) := by
  refine T.F_grouped.ok sc_grouped (fun vs H Q E h => ?_) (fun cdv A outer s H vs Q E hr h => ?_)
  · obtain ⟨a, b, xs, ps, rfl, _⟩ := h
    rfl
  · obtain ⟨a, b, xs, ps, rfl, hS, hd, h0, q⟩ := h
    have hl := Gx.dpAll_len hd
    rw [List.length_map] at hl
    refine ⟨_, ((pss_cons (ps_set (i := 2) sc_grouped.nd rfl (Or.inl rfl) (pe_ix ix_list (pv 1) (pe_un un_neg pe_int) (fun _ _ => rfl)))
  (pss_cons (ps_for PassesOwn.never rfl (pi_reversed (by rfl) T.z_reversed (pa_cons (pe_callTy call_list_of (by rfl) T.z_list bt_list (pa_cons (pe_slice sl_list (pv 1) po_none (po_some (pe_un un_neg pe_int))) pa_nil)) pa_nil)) (pg_name (i := 3) sc_grouped.nd rfl (Or.inl rfl))
  (pss_one (ps_set (i := 2) sc_grouped.nd rfl (Or.inl rfl) (pe_tup (pa_cons (pv 0) (pa_cons (pv 3) (pa_cons (pv 2) pa_nil)))))))
  (pss_one (ps_ret (pv 2)))))), ?_⟩
    rw [st_grouped]
    try dsimp only [cxOf]
    obtain ⟨v0, hv0, d0⟩ := pats_get hd (i := ps.length - 1) (by omega)
    walk_at "g"
    refine Gx.ixL hS (atI_m1 (by rw [hl]; exact hv0)) ?_
    walk_at "g"
    refine irev ?_
    walk_at "g"
    refine Gx.slL1 hS fun p H1 E1 => ?_
    rw [cutV_m1] at E1
    walk_at "g"
    refine ⟨p, _, rfl, .inl (SqL.of E1.at_), fun p2 n2 => ?_⟩
    have s2 : Same H (upd H1 p2 (.lst xs.dropLast)) := E1.same.trans (Gx.Same.put (Same.refl H1) n2)
    have e2 : upd H1 p2 (.lst xs.dropLast) p2 = some (.lst xs.dropLast) := upd_same
    generalize upd H1 p2 (.lst xs.dropLast) = H2 at *
    have hP := SqL.of (K := K) e2
    walk_at "g"
    refine ⟨p2, _, rfl, hP, for_it walk_rev (fun i σ H3 => ∃ (v : V) (y : Option V), Same H2 H3 ∧ Dp K H3 v (patD (fold b (ps.drop (ps.length - 1 - i)))) ∧ σ = [some (.str (Gx.mkS (kindS b))), some (.ref a), some v, y])
      ⟨v0, none, Same.refl _, by rw [Nat.sub_zero, fold_last b ps h0]; exact Gx.dp_same s2 _ _ d0, rfl⟩ (fun i σ H3 _ ⟨_, _, s3, _⟩ => s3.seq hP) ?_ ?_⟩
    · rintro i x σ H3 H4 hi ⟨v, y, s3, dv, rfl⟩ ⟨rfl, hx⟩
      rw [List.length_dropLast] at hi hx
      have hj : xs.length - 1 - 1 - i < ps.length := by omega
      obtain ⟨v1, hv1, d1⟩ := pats_get hd hj
      have ex : x = v1 := by
        rw [List.getElem?_dropLast, if_pos (by omega), hv1] at hx
        exact (Option.some.inj hx).symm
      subst ex
      have ej : xs.length - 1 - 1 - i = ps.length - 1 - (i + 1) := by omega
      rw [ej] at d1
      have hf := fold_drop b ps (ps.length - 1 - (i + 1)) (by omega)
      rw [show ps.length - 1 - (i + 1) + 1 = ps.length - 1 - i by omega] at hf
      walk_at "g"
      refine Gx.newT (by simp) (fun t H5 E5 => ?_)
      walk_at "g"
      refine ⟨_, _, s3.trans E5.same, ?_, rfl⟩
      rw [hf]
      exact .tup (SqT.of E5.at_) (.cons (.str _) (.cons (Gx.dp_same (s2.trans (s3.trans E5.same)) _ _ d1) (.cons (Gx.dp_same E5.same _ _ dv) .nil)))
    · rintro σ H3 ⟨v, y, s3, dv, rfl⟩
      rw [List.length_dropLast, show ps.length - 1 - (xs.length - 1) = 0 by omega, List.drop_zero] at dv
      walk_at "g"
      exact q H3 v (s2.trans s3) dv
end
end K13
namespace K13
open PySem PySem.Spec PyProof.Rows L2
local macro_rules | `(tactic| walk_at "con") => `(tactic| first | with_reducible refine Gx.conE K13.ks0 ?_ | with_reducible refine Gx.conE K13.ks1 ?_ | with_reducible refine Gx.conE K13.ks2 ?_ | with_reducible refine Gx.conE K13.ks3 ?_ | with_reducible refine Gx.conE K13.ks4 ?_ | with_reducible refine Gx.conE K13.ks5 ?_ | with_reducible refine Gx.conE K13.ks6 ?_ | with_reducible refine Gx.conE K13.ks7 ?_ | with_reducible refine Gx.conE K13.ks8 ?_ | with_reducible refine Gx.conE K13.ks9 ?_ | with_reducible refine Gx.conE K13.ks10 ?_ | with_reducible refine Gx.conE K13.ks11 ?_ | with_reducible refine Gx.conE K13.ks12 ?_ | with_reducible refine Gx.conE K13.ks13 ?_ | with_reducible refine Gx.conE K13.ks14 ?_ | with_reducible refine Gx.conE K13.ks15 ?_ | with_reducible refine Gx.conE K13.ks16 ?_ | with_reducible refine Gx.conE K13.ks17 ?_ | with_reducible refine Gx.conE K13.ks18 ?_ | with_reducible refine Gx.conE K13.ks19 ?_ | with_reducible refine Gx.conE K13.ks20 ?_ | with_reducible refine Gx.conE K13.ks21 ?_ | with_reducible refine Gx.conE K13.ks22 ?_ | with_reducible refine Gx.conE K13.ks23 ?_ | with_reducible refine Gx.conE K13.ks24 ?_ | with_reducible refine Gx.conE K13.ks25 ?_ | with_reducible refine Gx.conE K13.ks26 ?_ | with_reducible refine Gx.conE K13.ks27 ?_ | with_reducible refine Gx.conE K13.ks28 ?_ | with_reducible refine Gx.conE K13.ks29 ?_ | with_reducible refine Gx.conE K13.ks30 ?_ | with_reducible refine Gx.conE K13.ks31 ?_ | with_reducible refine Gx.conE K13.ks32 ?_ | with_reducible refine Gx.conE K13.ks33 ?_ | with_reducible refine Gx.conE K13.ks34 ?_ | with_reducible refine Gx.conE K13.ks35 ?_ | with_reducible refine Gx.conE K13.ks36 ?_ | with_reducible refine Gx.conE K13.ks37 ?_ | with_reducible refine Gx.conE K13.ks38 ?_ | with_reducible refine Gx.conE K13.ks39 ?_ | with_reducible refine Gx.conE K13.ks40 ?_ | with_reducible refine Gx.conE K13.ks41 ?_ | with_reducible refine Gx.conE K13.ks42 ?_ | with_reducible refine Gx.conE K13.ks43 ?_ | with_reducible refine Gx.conE K13.ks44 ?_ | with_reducible refine Gx.conE K13.ks45 ?_ | with_reducible refine Gx.conE K13.ks46 ?_ | with_reducible refine Gx.conE K13.ks47 ?_ | with_reducible refine Gx.conE K13.ks48 ?_ | with_reducible refine Gx.conE K13.ks49 ?_ | with_reducible refine Gx.conE K13.ks50 ?_ | with_reducible refine Gx.conE K13.ks51 ?_ | with_reducible refine Gx.conE K13.ks52 ?_ | with_reducible refine Gx.conE K13.ks53 ?_ | with_reducible refine Gx.conE K13.ks54 ?_ | with_reducible refine Gx.conE K13.ks55 ?_ | with_reducible refine Gx.conE K13.ks56 ?_ | with_reducible refine Gx.conE K13.ks57 ?_ | with_reducible refine Gx.conE K13.ks58 ?_ | with_reducible refine Gx.conE K13.ks59 ?_ | with_reducible refine Gx.conE K13.ks60 ?_ | with_reducible refine Gx.conE K13.ks61 ?_ | with_reducible refine Gx.conE K13.ks62 ?_ | with_reducible refine Gx.conE K13.ks63 ?_)
section
variable {P : Program} {w : World} {K : PySem.W.Frag} {mg : Str → Option Value} {base : Heap}
/-- what a reader of patterns promises -/
def PRs (K : PySem.W.Frag) (B : Addr) (l : List Nat) (x : Rs Pat) (H : Hp) (Q : VK) (E : XK) : Prop := match x with
  | .ok p r => ∀ H' t v, Same H H' → SqT K H' t [v, .int ((l.length - r.length : Nat) : Nat)] → Dp K H' v (patD p) → Q (.ref t) H'
  | .bad r => ∀ H' d, Same H H' → H d = none → H' d = some (xdOf (l.length - r.length)) → E (.ref B) (some d) H'
def spRd (K : PySem.W.Frag) (B : Addr) (f : List Nat → Rs Pat) (n : Nat) : Sp := fun vs H Q E => ∃ (l : List Nat) (at_ : Nat), vs = [.str (Gx.mkS l), .int (at_ : Nat)] ∧ at_ ≤ l.length ∧ l.length ≤ 100000 ∧ dep (l.drop at_) ≤ n ∧ PRs K B l (f (l.drop at_)) H Q E
def spInn (K : PySem.W.Frag) (B : Addr) : Nat → Sp
  | 0 => fun _ _ _ _ => False
  | n + 1 => spRd K B (inn (n + 1)) n
theorem spRd.len {B : Addr} {f : List Nat → Rs Pat} {n : Nat} {vs : List V} {H : Hp} {Q : VK} {E : XK} (h : spRd K B f n vs H Q E) : vs.length = 2 := by
  obtain ⟨l, a, rfl, _⟩ := h
  rfl
theorem fresh_of {H H1 : Hp} {d : Addr} (s : Same H H1) (n : H1 d = none) : H d = none := by
  cases e : H d with
  | none => rfl
  | some o => rw [s _ _ e] at n; cases n
theorem suf_drop {l r : List Nat} {a : Nat} (h : Suf r (l.drop a)) : Suf r l ∧ l.length - r.length ≤ l.length ∧ l.drop (l.length - r.length) = r := by
  have h1 : Suf r l := Suf.trans h ⟨l.take a, (List.take_append_drop a l).symm⟩
  exact ⟨h1, by omega, h1.drop⟩
/-- a piece of the text between two places -/
theorem piece {l w t : List Nat} {a : Nat} (h : l.drop a = w ++ t) (ha : a ≤ l.length) : (l.take (l.length - t.length)).drop a = w := by
  have hl := congrArg List.length h
  rw [List.length_drop, List.length_append] at hl
  rw [List.drop_take, h, show l.length - t.length - a = w.length by omega, List.take_left]
set_option maxHeartbeats 4000000 in
theorem G_base_at (T : Txt K mg w) {n k : Nat} (G_pattern_at : FnOk P w K mg base (L2.CX P w) k T.f_pattern_at T.fd_pattern_at ["text", "at"] (spInn K T.a_BadText n)) (hk : 3 ≤ k) : FnOk P w K mg base (L2.CX P w) (k + 1) T.f_base_at T.fd_base_at ["text", "at"] (spRd K T.a_BadText (baseOf (inn n)) n) := by
  have G_behind := G_behind (P := P) (w := w) (base := base) T
  have G_signs_end := G_signs_end (P := P) (w := w) (base := base) T
  have G_ascending_end := G_ascending_end (P := P) (w := w) (base := base) T
  have G_BadText_init := G_BadText_init (P := P) (w := w) (base := base) T
  refine T.F_base_at.okX sc_base_at (fun vs H Q E h => h.len) (fun cdv A outer s H vs Q E hr h => ?_)
  · obtain ⟨l, a, rfl, ha, hl, hc, q⟩ := h
    refine ⟨_, ((pss_cons (ps_set (i := 2) sc_base_at.nd rfl (Or.inl rfl) (pe_slice sl_str (pv 0) (po_some (pv 1)) (po_some (pe_op op_add (pv 1) pe_int))))
  (pss_cons (ps_if (pt_cmpR op_eq (pv 2) pe_str (nomark _))
  (pss_cons (ps_set (i := 3) sc_base_at.nd rfl (Or.inl rfl) (pe_call G_signs_end (hr.mono (by first | decide | omega)) (by rfl) T.g_signs_end T.F_signs_end.kp T.b_signs_end .nil pass0 (pa_cons (pv 0) (pa_cons (pe_op op_add (pv 1) pe_int) pa_nil))))
  (pss_one (ps_ret (pe_tup (pa_cons (pe_tup (pa_cons pe_str (pa_cons (pe_slice sl_str (pv 0) (po_some (pe_op op_add (pv 1) pe_int)) (po_some (pv 3))) pa_nil))) (pa_cons (pe_call G_behind (hr.mono (by first | decide | omega)) (by rfl) T.g_behind T.F_behind.kp T.b_behind .nil (passes_call (takes_of rfl rfl rfl rfl) (fun _ _ _ _ h => h)) (pa_cons (pv 0) (pa_cons (pv 3) (pa_cons pe_str pa_nil)))) pa_nil))))))
  pss_nil)
  (pss_cons (ps_if (pt_cmpR op_eq (pv 2) pe_str (nomark _))
  (pss_cons (ps_set (i := 3) sc_base_at.nd rfl (Or.inl rfl) (pe_call G_ascending_end (hr.mono (by first | decide | omega)) (by rfl) T.g_ascending_end T.F_ascending_end.kp T.b_ascending_end .nil pass0 (pa_cons (pv 0) (pa_cons (pe_op op_add (pv 1) pe_int) pa_nil))))
  (pss_cons (ps_if (pt_cmpR op_eq (pv 3) (pe_op op_add (pv 1) pe_int) (nomark _))
  (pss_one (ps_raise rfl (takes_of rfl rfl rfl rfl) (pmk_oex T.o_BadText T.oi_BadText T.ot_BadText G_BadText_init (hr.mono (by first | decide | omega)) T.b_BadText_init .nil pass0 rfl T.g_BadText (pa_cons (pv 3) pa_nil))))
  pss_nil)
  (pss_one (ps_ret (pe_tup (pa_cons (pe_tup (pa_cons pe_str (pa_cons (pe_slice sl_str (pv 0) (po_some (pe_op op_add (pv 1) pe_int)) (po_some (pv 3))) pa_nil))) (pa_cons (pe_call G_behind (hr.mono (by first | decide | omega)) (by rfl) T.g_behind T.F_behind.kp T.b_behind .nil (passes_call (takes_of rfl rfl rfl rfl) (fun _ _ _ _ h => h)) (pa_cons (pv 0) (pa_cons (pv 3) (pa_cons pe_str pa_nil)))) pa_nil)))))))
  pss_nil)
  (pss_cons (ps_asg (pe_call G_pattern_at (hr.mono (by first | decide | omega)) (by rfl) T.g_pattern_at T.F_pattern_at.kp T.b_pattern_at .nil (passes_call (takes_of rfl rfl rfl rfl) (fun _ _ _ _ h => h)) (pa_cons (pv 0) (pa_cons (pe_call G_behind (hr.mono (by first | decide | omega)) (by rfl) T.g_behind T.F_behind.kp T.b_behind .nil (passes_call (takes_of rfl rfl rfl rfl) (fun _ _ _ _ h => h)) (pa_cons (pv 0) (pa_cons (pv 1) (pa_cons pe_str pa_nil)))) pa_nil))) (pg_tup rfl (pgs_cons (pg_name (i := 4) sc_base_at.nd rfl (Or.inl rfl)) (pgs_cons (pg_name (i := 3) sc_base_at.nd rfl (Or.inl rfl)) pgs_nil))))
  (pss_one (ps_ret (pe_tup (pa_cons (pv 4) (pa_cons (pe_call G_behind (hr.mono (by first | decide | omega)) (by rfl) T.g_behind T.F_behind.kp T.b_behind .nil (passes_call (takes_of rfl rfl rfl rfl) (fun _ _ _ _ h => h)) (pa_cons (pv 0) (pa_cons (pv 3) (pa_cons pe_str pa_nil)))) pa_nil)))))))))), ?_⟩
    clear G_behind G_signs_end G_ascending_end G_BadText_init G_pattern_at
    rw [st_base_at]
    try dsimp only [cxOf]
    walk_at "g"
    rw [sl1]
    refine Gx.iteD (fun h60 => ?_) (fun h60 => ?_)
    · obtain ⟨r, hr0⟩ : ∃ r, l.drop a = 60 :: r := by
        cases hd : l.drop a with
        | nil => rw [hd] at h60; cases h60
        | cons x r => rw [hd] at h60; cases h60; exact ⟨r, rfl⟩
      obtain ⟨ha1, hdr, _⟩ := suf_at hr0
      have hsp := spanS_suf r
      have hT : Suf (spanS r).2 (l.drop (a + 1)) := by rw [hdr]; exact ⟨_, hsp⟩
      obtain ⟨t1, t2, t3⟩ := suf_drop hT
      rw [hr0] at q
      walk_at "g"
      refine ⟨l, a + 1, rfl, by omega, hl, ?_⟩
      rw [hdr]
      walk_at "g"
      have ep : (l.take (((l.length - (spanS r).2.length : Nat) : Int)).toNat).drop ((a : Int) + 1).toNat = (spanS r).1 := by
        rw [Int.toNat_natCast, show ((a : Int) + 1).toNat = a + 1 by omega]
        exact piece (by rw [hdr]; exact hsp) (by omega)
      rw [ep]
      refine Gx.newT (by simp) (fun tw H1 E1 => ?_)
      walk_at "g"
      have hb : baseOf (inn n) (60 :: r) = leafOf false r := rfl
      rw [hb] at q
      refine ⟨l, l.length - (spanS r).2.length, 62, rfl, hl, fun u hu => ?_, fun hno d nd => ?_⟩
      · rw [t3] at hu
        have e : leafOf false r = .ok (.word (spanS r).1) u := by unfold leafOf; rw [if_pos rfl, hu]; rfl
        rw [e] at q
        have hlen := congrArg List.length hu
        rw [List.length_cons] at hlen
        have t4 := t1.len
        walk_at "g"
        refine Gx.newT (by simp) (fun tt H2 E2 => ?_)
        refine q H2 tt (.ref tw) (E1.same.trans E2.same) ?_ (.tup (E2.same.seqT (SqT.of E1.at_)) (.cons (.str _) (.cons (.str _) .nil)))
        rw [show l.length - u.length = l.length - (spanS r).2.length + 1 by omega]
        exact SqT.of E2.at_
      · rw [t3] at hno
        have e : leafOf false r = .bad (spanS r).2 := by
          unfold leafOf
          rw [if_pos rfl]
          split
          · rename_i t e; exact absurd e (hno t)
          · rfl
        rw [e] at q
        exact q _ d (E1.same.trans (Gx.Same.put (Same.refl H1) nd)) (fresh_of E1.same nd) upd_same
    · walk_at "g"
      refine Gx.iteD (fun h91 => ?_) (fun h91 => ?_)
      · obtain ⟨r, hr0⟩ : ∃ r, l.drop a = 91 :: r := by
          cases hd : l.drop a with
          | nil => rw [hd] at h91; cases h91
          | cons x r => rw [hd] at h91; cases h91; exact ⟨r, rfl⟩
        obtain ⟨ha1, hdr, _⟩ := suf_at hr0
        have hsp := spanA_suf r 0
        have hT : Suf (spanA 0 r).2 (l.drop (a + 1)) := by rw [hdr]; exact ⟨_, hsp⟩
        obtain ⟨t1, t2, t3⟩ := suf_drop hT
        have hln : l.length - (spanA 0 r).2.length = a + 1 + (spanA 0 r).1.length := by
          have h1 := congrArg List.length hdr
          have h2 := congrArg List.length hsp
          rw [List.length_drop] at h1
          rw [List.length_append] at h2
          omega
        rw [hr0] at q
        have hb : baseOf (inn n) (91 :: r) = leafOf true r := rfl
        rw [hb] at q
        walk_at "g"
        refine ⟨l, a + 1, rfl, by omega, hl, ?_⟩
        rw [hdr]
        walk_at "g"
        refine Gx.iteD (fun he => ?_) (fun he => ?_)
        · have hw : (spanA 0 r).1 = [] := List.eq_nil_of_length_eq_zero (by omega)
          have e : leafOf true r = .bad (spanA 0 r).2 := by unfold leafOf; rw [if_neg (by decide), if_pos hw]
          rw [e] at q
          refine Gx.mkO ?_ ?_
          · walk_at "g"
            exact ⟨_, rfl, fun d nd => q _ d (Gx.Same.put (Same.refl H) nd) nd upd_same⟩
          · rintro Q1 Q2 h12 ⟨v, e, h⟩
            exact ⟨v, e, h12 _ _ h⟩
        · have hw : (spanA 0 r).1 ≠ [] := fun z => he (by rw [hln, z]; rfl)
          walk_at "g"
          have ep : (l.take (((l.length - (spanA 0 r).2.length : Nat) : Int)).toNat).drop ((a : Int) + 1).toNat = (spanA 0 r).1 := by
            rw [Int.toNat_natCast, show ((a : Int) + 1).toNat = a + 1 by omega]
            exact piece (by rw [hdr]; exact hsp) (by omega)
          rw [ep]
          refine Gx.newT (by simp) (fun tw H1 E1 => ?_)
          walk_at "g"
          refine ⟨l, l.length - (spanA 0 r).2.length, 93, rfl, hl, fun u hu => ?_, fun hno d nd => ?_⟩
          · rw [t3] at hu
            have e : leafOf true r = .ok (.one (spanA 0 r).1) u := by unfold leafOf; rw [if_neg (by decide), if_neg hw, hu]; rfl
            rw [e] at q
            have hlen := congrArg List.length hu
            rw [List.length_cons] at hlen
            have t4 := t1.len
            walk_at "g"
            refine Gx.newT (by simp) (fun tt H2 E2 => ?_)
            refine q H2 tt (.ref tw) (E1.same.trans E2.same) ?_ (.tup (E2.same.seqT (SqT.of E1.at_)) (.cons (.str _) (.cons (.str _) .nil)))
            rw [show l.length - u.length = l.length - (spanA 0 r).2.length + 1 by omega]
            exact SqT.of E2.at_
          · rw [t3] at hno
            have e : leafOf true r = .bad (spanA 0 r).2 := by
              unfold leafOf
              rw [if_neg (by decide), if_neg hw]
              split
              · rename_i t e; exact absurd e (hno t)
              · rfl
            rw [e] at q
            exact q _ d (E1.same.trans (Gx.Same.put (Same.refl H1) nd)) (fresh_of E1.same nd) upd_same
      · walk_at "g"
        refine ⟨l, a, 40, rfl, hl, fun r hr0 => ?_, fun hno d nd => ?_⟩
        · obtain ⟨ha1, hdr, _⟩ := suf_at hr0
          rw [hr0] at q hc
          rw [dep_40] at hc
          have hb : baseOf (inn n) (40 :: r) = closeOf (inn n r) := rfl
          rw [hb] at q
          cases n with
          | zero => omega
          | succ n =>
            walk_at "g"
            refine ⟨l, a + 1, rfl, by omega, hl, by rw [hdr]; omega, ?_⟩
            rw [hdr]
            have hsf := inn_suf (n + 1) r
            cases hin : inn (n + 1) r with
            | bad t =>
              rw [hin] at q
              exact q
            | ok p t =>
              rw [hin] at q hsf
              have hT : Suf t (l.drop (a + 1)) := by rw [hdr]; exact hsf
              obtain ⟨t1, t2, t3⟩ := suf_drop hT
              intro H1 tp v s1 htp dv
              walk_at "g"
              refine ⟨tp, _, rfl, htp, rfl, ?_⟩
              walk_at "g"
              refine ⟨l, l.length - t.length, 41, rfl, hl, fun u hu => ?_, fun hno d nd => ?_⟩
              · rw [t3] at hu
                rw [hu, closeOf_41] at q
                have hlen := congrArg List.length hu
                rw [List.length_cons] at hlen
                have t4 := t1.len
                walk_at "g"
                refine Gx.newT (by simp) (fun tt H2 E2 => ?_)
                refine q H2 tt v (s1.trans E2.same) ?_ (Gx.dp_same E2.same _ _ dv)
                rw [show l.length - u.length = l.length - t.length + 1 by omega]
                exact SqT.of E2.at_
              · rw [t3] at hno
                have e : closeOf (.ok p t) = .bad t := by
                  cases t with
                  | nil => rfl
                  | cons c u => exact closeOf_ne fun z => hno u (by rw [z])
                rw [e] at q
                exact q _ d (s1.trans (Gx.Same.put (Same.refl H1) nd)) (fresh_of s1 nd) upd_same
        · have e : baseOf (inn n) (l.drop a) = .bad (l.drop a) := by
            cases hd : l.drop a with
            | nil => rfl
            | cons c r =>
              rw [hd] at h60 h91 hno
              unfold baseOf
              split
              · rename_i e; injection e with e _; subst e; exact absurd rfl h60
              · rename_i e; injection e with e _; subst e; exact absurd rfl h91
              · rename_i u e; injection e with e _; subst e; exact absurd rfl (hno r)
              · rfl
          rw [e] at q
          have hla : l.length - (l.drop a).length = a := by rw [List.length_drop]; omega
          refine q _ d (Gx.Same.put (Same.refl H) nd) nd ?_
          rw [hla]
          exact upd_same
end
end K13
namespace K13
open PySem PySem.Spec PyProof.Rows L2
local macro_rules | `(tactic| walk_at "con") => `(tactic| first | with_reducible refine Gx.conE K13.ks0 ?_ | with_reducible refine Gx.conE K13.ks1 ?_ | with_reducible refine Gx.conE K13.ks2 ?_ | with_reducible refine Gx.conE K13.ks3 ?_ | with_reducible refine Gx.conE K13.ks4 ?_ | with_reducible refine Gx.conE K13.ks5 ?_ | with_reducible refine Gx.conE K13.ks6 ?_ | with_reducible refine Gx.conE K13.ks7 ?_ | with_reducible refine Gx.conE K13.ks8 ?_ | with_reducible refine Gx.conE K13.ks9 ?_ | with_reducible refine Gx.conE K13.ks10 ?_ | with_reducible refine Gx.conE K13.ks11 ?_ | with_reducible refine Gx.conE K13.ks12 ?_ | with_reducible refine Gx.conE K13.ks13 ?_ | with_reducible refine Gx.conE K13.ks14 ?_ | with_reducible refine Gx.conE K13.ks15 ?_ | with_reducible refine Gx.conE K13.ks16 ?_ | with_reducible refine Gx.conE K13.ks17 ?_ | with_reducible refine Gx.conE K13.ks18 ?_ | with_reducible refine Gx.conE K13.ks19 ?_ | with_reducible refine Gx.conE K13.ks20 ?_ | with_reducible refine Gx.conE K13.ks21 ?_ | with_reducible refine Gx.conE K13.ks22 ?_ | with_reducible refine Gx.conE K13.ks23 ?_ | with_reducible refine Gx.conE K13.ks24 ?_ | with_reducible refine Gx.conE K13.ks25 ?_ | with_reducible refine Gx.conE K13.ks26 ?_ | with_reducible refine Gx.conE K13.ks27 ?_ | with_reducible refine Gx.conE K13.ks28 ?_ | with_reducible refine Gx.conE K13.ks29 ?_ | with_reducible refine Gx.conE K13.ks30 ?_ | with_reducible refine Gx.conE K13.ks31 ?_ | with_reducible refine Gx.conE K13.ks32 ?_ | with_reducible refine Gx.conE K13.ks33 ?_ | with_reducible refine Gx.conE K13.ks34 ?_ | with_reducible refine Gx.conE K13.ks35 ?_ | with_reducible refine Gx.conE K13.ks36 ?_ | with_reducible refine Gx.conE K13.ks37 ?_ | with_reducible refine Gx.conE K13.ks38 ?_ | with_reducible refine Gx.conE K13.ks39 ?_ | with_reducible refine Gx.conE K13.ks40 ?_ | with_reducible refine Gx.conE K13.ks41 ?_ | with_reducible refine Gx.conE K13.ks42 ?_ | with_reducible refine Gx.conE K13.ks43 ?_ | with_reducible refine Gx.conE K13.ks44 ?_ | with_reducible refine Gx.conE K13.ks45 ?_ | with_reducible refine Gx.conE K13.ks46 ?_ | with_reducible refine Gx.conE K13.ks47 ?_ | with_reducible refine Gx.conE K13.ks48 ?_ | with_reducible refine Gx.conE K13.ks49 ?_ | with_reducible refine Gx.conE K13.ks50 ?_ | with_reducible refine Gx.conE K13.ks51 ?_ | with_reducible refine Gx.conE K13.ks52 ?_ | with_reducible refine Gx.conE K13.ks53 ?_ | with_reducible refine Gx.conE K13.ks54 ?_ | with_reducible refine Gx.conE K13.ks55 ?_ | with_reducible refine Gx.conE K13.ks56 ?_ | with_reducible refine Gx.conE K13.ks57 ?_ | with_reducible refine Gx.conE K13.ks58 ?_ | with_reducible refine Gx.conE K13.ks59 ?_ | with_reducible refine Gx.conE K13.ks60 ?_ | with_reducible refine Gx.conE K13.ks61 ?_ | with_reducible refine Gx.conE K13.ks62 ?_ | with_reducible refine Gx.conE K13.ks63 ?_)
section
variable {P : Program} {w : World} {K : PySem.W.Frag} {mg : Str → Option Value} {base : Heap}
theorem G_item_at (T : Txt K mg w) {n k : Nat} (G_base_at : FnOk P w K mg base (L2.CX P w) k T.f_base_at T.fd_base_at ["text", "at"] (spRd K T.a_BadText (baseOf (inn n)) n)) : FnOk P w K mg base (L2.CX P w) (k + 1) T.f_item_at T.fd_item_at ["text", "at"] (spRd K T.a_BadText (itemOf (inn n)) n) := by
  refine T.F_item_at.okX sc_item_at (fun vs H Q E h => h.len) (fun cdv A outer s H vs Q E hr h => ?_)
  · obtain ⟨l, a, rfl, ha, hl, hc, q⟩ := h
    refine ⟨_, ((pss_cons (ps_asg (pe_call G_base_at (hr.mono (by first | decide | omega)) (by rfl) T.g_base_at T.F_base_at.kp T.b_base_at .nil (passes_call (takes_of rfl rfl rfl rfl) (fun _ _ _ _ h => h)) (pa_cons (pv 0) (pa_cons (pv 1) pa_nil))) (pg_tup rfl (pgs_cons (pg_name (i := 2) sc_item_at.nd rfl (Or.inl rfl)) (pgs_cons (pg_name (i := 1) sc_item_at.nd rfl (Or.inl rfl)) pgs_nil))))
  (pss_cons (ps_while (passes_of rfl) (pt_cmpR op_eq (pe_slice sl_str (pv 0) (po_some (pv 1)) (po_some (pe_op op_add (pv 1) pe_int))) pe_str (nomark _))
  (pss_cons (ps_set (i := 2) sc_item_at.nd rfl (Or.inl rfl) (pe_tup (pa_cons pe_str (pa_cons (pv 2) pa_nil))))
  (pss_one (ps_aug (i := 1) sc_item_at.nd rfl (Or.inl rfl) pe_int ip_add))))
  (pss_one (ps_ret (pe_tup (pa_cons (pv 2) (pa_cons (pv 1) pa_nil)))))))), ?_⟩
    clear G_base_at
    rw [st_item_at]
    try dsimp only [cxOf]
    walk_at "g"
    refine ⟨l, a, rfl, ha, hl, hc, ?_⟩
    have hsf := baseOf_suf (inn_suf n) (l.drop a)
    have e : itemOf (inn n) (l.drop a) = (match baseOf (inn n) (l.drop a) with | .ok p r => .ok (stars p r).1 (stars p r).2 | .bad r => .bad r) := rfl
    rw [e] at q
    cases hb : baseOf (inn n) (l.drop a) with
    | bad r => rw [hb] at q; exact q
    | ok p r =>
      rw [hb] at q hsf
      dsimp only at q
      obtain ⟨t1, t2, t3⟩ := suf_drop hsf.1
      intro H1 t v s1 ht dv
      walk_at "g"
      refine ⟨t, _, rfl, ht, rfl, ?_⟩
      walk_at "g"
      refine Gx.wh (W := fun m σ H' => ∃ (b : Nat) (u : V) (p' : Pat), Same H H' ∧ b ≤ l.length ∧ m = l.length - b ∧ Dp K H' u (patD p') ∧ stars p' (l.drop b) = stars p r ∧ σ = [some (.str (Gx.mkS l)), some (.int (b : Nat)), some u]) (m0 := l.length - (l.length - r.length)) ⟨l.length - r.length, v, p, s1, t2, rfl, dv, by rw [t3], rfl⟩ ?_
      rintro m σ H' ⟨b, u, p', s', hb', rfl, du, hst, rfl⟩
      walk_at "g"
      rw [sl1]
      refine Gx.iteD (fun h42 => ?_) (fun h42 => ?_)
      · obtain ⟨z, hz⟩ : ∃ z, l.drop b = 42 :: z := by
          cases hd : l.drop b with
          | nil => rw [hd] at h42; cases h42
          | cons x z => rw [hd] at h42; cases h42; exact ⟨z, rfl⟩
        obtain ⟨b1, b2, _⟩ := suf_at hz
        refine ⟨fun σ' H'' => Same H H'' ∧ ∃ u', Dp K H'' u' (patD (.star p')) ∧ σ' = [some (.str (Gx.mkS l)), some (.int ((b + 1 : Nat) : Nat)), some u'], ?_, ?_⟩
        · rintro σ' H'' ⟨s'', u', du', rfl⟩
          refine ⟨_, ?_, b + 1, u', .star p', s'', by omega, rfl, du', ?_, rfl⟩
          · omega
          · rw [b2, ← hst, hz]
            rfl
        · walk_at "g"
          refine Gx.newT (by simp) (fun tt H2 E2 => ?_)
          walk_at "g"
          exact ⟨s'.trans E2.same, _, .tup (SqT.of E2.at_) (.cons (.str _) (.cons (Gx.dp_same E2.same _ _ du) .nil)), rfl⟩
      · have hstop : stars p' (l.drop b) = (p', l.drop b) := by
          cases hd : l.drop b with
          | nil => rfl
          | cons x z => rw [hd] at h42; exact stars_ne fun e => h42 (by rw [e]; rfl)
        rw [hstop] at hst
        rw [← hst] at q
        dsimp only at q
        walk_at "g"
        refine Gx.newT (by simp) (fun tt H2 E2 => ?_)
        refine q H2 tt u (s'.trans E2.same) ?_ (Gx.dp_same E2.same _ _ du)
        rw [show l.length - (l.drop b).length = b by rw [List.length_drop]; omega]
        exact SqT.of E2.at_
theorem starts_take (s : List Nat) : decide (s.take 1 ∈ [[60], [91], [40]]) = starts s := by
  cases s with
  | nil => rfl
  | cons c r =>
    show decide ([c] ∈ [[60], [91], [40]]) = (c == 60 || c == 91 || c == 40)
    rw [Bool.eq_iff_iff]
    simp [or_assoc]
set_option maxHeartbeats 4000000 in
theorem G_chain_at (T : Txt K mg w) {n k : Nat} (G_item_at : FnOk P w K mg base (L2.CX P w) k T.f_item_at T.fd_item_at ["text", "at"] (spRd K T.a_BadText (itemOf (inn n)) n)) (hk : 1 ≤ k) : FnOk P w K mg base (L2.CX P w) (k + 1) T.f_chain_at T.fd_chain_at ["text", "at"] (spRd K T.a_BadText (chainT (inn n)) n) := by
  have G_grouped := G_grouped (P := P) (w := w) (base := base) T
  refine T.F_chain_at.okX sc_chain_at (fun vs H Q E h => h.len) (fun cdv A outer s H vs Q E hr h => ?_)
  · obtain ⟨l, a, rfl, ha, hl, hc, q⟩ := h
    refine ⟨_, ((pss_cons (ps_asg (pe_call G_item_at (hr.mono (by first | decide | omega)) (by rfl) T.g_item_at T.F_item_at.kp T.b_item_at .nil (passes_call (takes_of rfl rfl rfl rfl) (fun _ _ _ _ h => h)) (pa_cons (pv 0) (pa_cons (pv 1) pa_nil))) (pg_tup rfl (pgs_cons (pg_name (i := 2) sc_chain_at.nd rfl (Or.inl rfl)) (pgs_cons (pg_name (i := 1) sc_chain_at.nd rfl (Or.inl rfl)) pgs_nil))))
  (pss_cons (ps_set (i := 3) sc_chain_at.nd rfl (Or.inl rfl) (pe_lst (pa_cons (pv 2) pa_nil)))
  (pss_cons (ps_while (passes_of rfl) (pt_cmpR op_in_seq (pe_slice sl_str (pv 0) (po_some (pv 1)) (po_some (pe_op op_add (pv 1) pe_int))) (pe_tup (pa_cons pe_str (pa_cons pe_str (pa_cons pe_str pa_nil)))) rfl)
  (pss_cons (ps_asg (pe_call G_item_at (hr.mono (by first | decide | omega)) (by rfl) T.g_item_at T.F_item_at.kp T.b_item_at .nil (passes_call (takes_of rfl rfl rfl rfl) (fun _ _ _ _ h => h)) (pa_cons (pv 0) (pa_cons (pv 1) pa_nil))) (pg_tup rfl (pgs_cons (pg_name (i := 2) sc_chain_at.nd rfl (Or.inl rfl)) (pgs_cons (pg_name (i := 1) sc_chain_at.nd rfl (Or.inl rfl)) pgs_nil))))
  (pss_one (ps_expr (pe_bm PySem.F.plainAttrs_list PySem.F.slot_list_append PySem.F.type_list_append mt_append (pv 3) (pa_cons (pv 2) pa_nil))))))
  (pss_one (ps_ret (pe_tup (pa_cons (pe_call G_grouped (hr.mono (by first | decide | omega)) (by rfl) T.g_grouped T.F_grouped.kp T.b_grouped .nil pass0 (pa_cons pe_str (pa_cons (pv 3) pa_nil))) (pa_cons (pv 1) pa_nil))))))))), ?_⟩
    clear G_item_at G_grouped
    rw [st_chain_at]
    try dsimp only [cxOf]
    walk_at "g"
    refine ⟨l, a, rfl, ha, hl, hc, ?_⟩
    have hsf := itemOf_suf (inn_suf n) (l.drop a)
    have hdn := itemOf_dn (inn_dn n) (l.drop a)
    have e : chainT (inn n) (l.drop a) = (match itemOf (inn n) (l.drop a) with | .ok p r => (match chainOf (inn n) r.length [p] r with | .ok ps t => .ok (fold true ps) t | .bad t => .bad t) | .bad r => .bad r) := rfl
    rw [e] at q
    cases hb : itemOf (inn n) (l.drop a) with
    | bad r => rw [hb] at q; exact q
    | ok p r =>
      rw [hb] at q hsf hdn
      dsimp only at q
      obtain ⟨t1, t2, t3⟩ := suf_drop hsf.1
      have hcr := Nat.le_trans hdn hc
      have hrl := t1.len
      intro H1 t v s1 ht dv
      walk_at "g"
      refine ⟨t, _, rfl, ht, rfl, ?_⟩
      walk_at "g"
      refine Gx.newL (by simp) (fun F H2 E2 => ?_)
      have nF : H F = none := fresh_of s1 E2.fresh
      walk_at "g"
      refine Gx.wh (W := fun m σ H' => ∃ (b j : Nat) (xs : List V) (ps : List Pat) (y : V), Same H H' ∧ b ≤ l.length ∧ m = l.length - b ∧ H' F = some (.lst xs) ∧ DpAll K H' xs (ps.map patD) ∧ 0 < ps.length ∧ ps.length + (l.length - b) ≤ l.length + 1 ∧ dep (l.drop b) ≤ n ∧ l.length - b ≤ j ∧
          chainOf (inn n) j ps (l.drop b) = chainOf (inn n) r.length [p] r ∧ σ = [some (.str (Gx.mkS l)), some (.int (b : Nat)), some y, some (.ref F)]) (m0 := l.length - (l.length - r.length))
        ⟨l.length - r.length, r.length, [v], [p], v, s1.trans E2.same, t2, rfl, E2.at_, .cons (Gx.dp_same E2.same _ _ dv) .nil, by simp, by simp; omega, by rw [t3]; exact hcr, by omega, by rw [t3], rfl⟩ ?_
      rintro m σ H' ⟨b, j, xs, ps, y, s', hb', rfl, eF, dx, hp0, hpl, hcb, hj, hch, rfl⟩
      have hxl := Gx.dpAll_len dx
      rw [List.length_map] at hxl
      walk_at "g"
      rw [sl1]
      refine Gx.newT (by simp) (fun tk H3 E3 => ?_)
      refine inStr (ls := [[60], [91], [40]]) (SqT.of E3.at_) ?_
      rw [starts_take]
      have eF3 := E3.same _ _ eF
      have dx3 := Gx.dpAll_same E3.same _ _ dx
      have s3 := s'.trans E3.same
      clear E3
      refine ⟨_, rfl, ?_⟩
      refine Gx.iteB (fun hst => ?_) (fun hst => ?_)
      · refine ⟨fun σ' H'' => ∃ (b' j' : Nat) (xs' : List V) (ps' : List Pat) (y' : V), b < b' ∧ Same H H'' ∧ b' ≤ l.length ∧ H'' F = some (.lst xs') ∧ DpAll K H'' xs' (ps'.map patD) ∧ 0 < ps'.length ∧ ps'.length + (l.length - b') ≤ l.length + 1 ∧ dep (l.drop b') ≤ n ∧ l.length - b' ≤ j' ∧
            chainOf (inn n) j' ps' (l.drop b') = chainOf (inn n) r.length [p] r ∧ σ' = [some (.str (Gx.mkS l)), some (.int (b' : Nat)), some y', some (.ref F)], ?_, ?_⟩
        · rintro σ' H'' ⟨b', j', xs', ps', y', hlt, h⟩
          exact ⟨l.length - b', by omega, b', j', xs', ps', y', h.1, h.2.1, rfl, h.2.2⟩
        · walk_at "g"
          refine ⟨l, b, rfl, hb', hl, hcb, ?_⟩
          have hsf2 := itemOf_suf (inn_suf n) (l.drop b)
          have hdn2 := itemOf_dn (inn_dn n) (l.drop b)
          have hj1 : 1 ≤ j := by
            cases hd : l.drop b with
            | nil => rw [hd] at hst; cases hst
            | cons c z => have := (suf_at hd).1; omega
          obtain ⟨j, rfl⟩ : ∃ j0, j = j0 + 1 := ⟨j - 1, by omega⟩
          rw [chainOf, if_pos hst] at hch
          cases hb2 : itemOf (inn n) (l.drop b) with
          | bad u =>
            rw [hb2] at hch
            dsimp only at hch
            rw [← hch] at q
            exact fun H4 d s4 nd hd => q H4 d (s3.trans s4) (fresh_of s3 nd) hd
          | ok p2 u =>
            rw [hb2] at hch hsf2 hdn2
            dsimp only at hch
            obtain ⟨u1, u2, u3⟩ := suf_drop hsf2.1
            have hlt : u.length < (l.drop b).length := hsf2.2
            rw [List.length_drop] at hlt
            have hul := u1.len
            intro H4 t2 v2 s4 ht2 dv2
            have eF4 := s4 _ _ eF3
            walk_at "g"
            refine ⟨t2, _, rfl, ht2, rfl, ?_⟩
            walk_at "g"
            refine ⟨l.length - u.length, j, xs ++ [v2], ps ++ [p2], v2, by omega, Gx.Same.put (s3.trans s4) nF, u2, upd_same, ?_, by simp, by simp; omega, by rw [u3]; exact Nat.le_trans hdn2 hcb, by omega, by rw [u3]; exact hch, rfl⟩
            rw [List.map_append]
            have nl : Gx.noLs (ps.map patD ++ [p2].map patD) = true := by rw [← List.map_append]; exact noLs_pats _
            exact Gx.dpAll_tups (Gx.Tups.upd eF4) _ _ nl (Gx.dpAll_app (Gx.dpAll_same s4 _ _ dx3) (.cons dv2 .nil))
      · have hstop : chainOf (inn n) j ps (l.drop b) = .ok ps (l.drop b) := chain_stop hst
        rw [hstop] at hch
        rw [← hch] at q
        dsimp only at q
        walk_at "g"
        refine ⟨F, true, xs, ps, rfl, SqL.of eF3, dx3, hp0, fun H4 v4 s4 dv4 => ?_⟩
        walk_at "g"
        refine Gx.newT (by simp) (fun tt H5 E5 => ?_)
        refine q H5 tt v4 (s3.trans (s4.trans E5.same)) ?_ (Gx.dp_same E5.same _ _ dv4)
        rw [show l.length - (l.drop b).length = b by rw [List.length_drop]; omega]
        exact SqT.of E5.at_
set_option maxHeartbeats 4000000 in
theorem G_pattern_at1 (T : Txt K mg w) {n k : Nat} (G_chain_at : FnOk P w K mg base (L2.CX P w) k T.f_chain_at T.fd_chain_at ["text", "at"] (spRd K T.a_BadText (chainT (inn n)) n)) (hk : 1 ≤ k) : FnOk P w K mg base (L2.CX P w) (k + 1) T.f_pattern_at T.fd_pattern_at ["text", "at"] (spInn K T.a_BadText (n + 1)) := by
  have G_grouped := G_grouped (P := P) (w := w) (base := base) T
  refine T.F_pattern_at.okX sc_pattern_at (fun vs H Q E h => spRd.len h) (fun cdv A outer s H vs Q E hr h => ?_)
  · obtain ⟨l, a, rfl, ha, hl, hc, q⟩ := h
    refine ⟨_, ((pss_cons (ps_asg (pe_call G_chain_at (hr.mono (by first | decide | omega)) (by rfl) T.g_chain_at T.F_chain_at.kp T.b_chain_at .nil (passes_call (takes_of rfl rfl rfl rfl) (fun _ _ _ _ h => h)) (pa_cons (pv 0) (pa_cons (pv 1) pa_nil))) (pg_tup rfl (pgs_cons (pg_name (i := 2) sc_pattern_at.nd rfl (Or.inl rfl)) (pgs_cons (pg_name (i := 1) sc_pattern_at.nd rfl (Or.inl rfl)) pgs_nil))))
  (pss_cons (ps_set (i := 3) sc_pattern_at.nd rfl (Or.inl rfl) (pe_lst (pa_cons (pv 2) pa_nil)))
  (pss_cons (ps_while (passes_of rfl) (pt_cmpR op_eq (pe_slice sl_str (pv 0) (po_some (pv 1)) (po_some (pe_op op_add (pv 1) pe_int))) pe_str (nomark _))
  (pss_cons (ps_asg (pe_call G_chain_at (hr.mono (by first | decide | omega)) (by rfl) T.g_chain_at T.F_chain_at.kp T.b_chain_at .nil (passes_call (takes_of rfl rfl rfl rfl) (fun _ _ _ _ h => h)) (pa_cons (pv 0) (pa_cons (pe_op op_add (pv 1) pe_int) pa_nil))) (pg_tup rfl (pgs_cons (pg_name (i := 2) sc_pattern_at.nd rfl (Or.inl rfl)) (pgs_cons (pg_name (i := 1) sc_pattern_at.nd rfl (Or.inl rfl)) pgs_nil))))
  (pss_one (ps_expr (pe_bm PySem.F.plainAttrs_list PySem.F.slot_list_append PySem.F.type_list_append mt_append (pv 3) (pa_cons (pv 2) pa_nil))))))
  (pss_one (ps_ret (pe_tup (pa_cons (pe_call G_grouped (hr.mono (by first | decide | omega)) (by rfl) T.g_grouped T.F_grouped.kp T.b_grouped .nil pass0 (pa_cons pe_str (pa_cons (pv 3) pa_nil))) (pa_cons (pv 1) pa_nil))))))))), ?_⟩
    clear G_chain_at G_grouped
    rw [st_pattern_at]
    try dsimp only [cxOf]
    walk_at "g"
    refine ⟨l, a, rfl, ha, hl, hc, ?_⟩
    have hsf := chainT_suf (inn_suf n) (l.drop a)
    have hdn := chainT_dn (inn_dn n) (l.drop a)
    have e : inn (n + 1) (l.drop a) = (match chainT (inn n) (l.drop a) with | .ok p r => (match altOf (inn n) r.length [p] r with | .ok ps t => .ok (fold false ps) t | .bad t => .bad t) | .bad r => .bad r) := rfl
    rw [e] at q
    cases hb : chainT (inn n) (l.drop a) with
    | bad r => rw [hb] at q; exact q
    | ok p r =>
      rw [hb] at q hsf hdn
      dsimp only at q
      obtain ⟨t1, t2, t3⟩ := suf_drop hsf.1
      have hcr := Nat.le_trans hdn hc
      have hrl := t1.len
      intro H1 t v s1 ht dv
      walk_at "g"
      refine ⟨t, _, rfl, ht, rfl, ?_⟩
      walk_at "g"
      refine Gx.newL (by simp) (fun F H2 E2 => ?_)
      have nF : H F = none := fresh_of s1 E2.fresh
      walk_at "g"
      refine Gx.wh (W := fun m σ H' => ∃ (b j : Nat) (xs : List V) (ps : List Pat) (y : V), Same H H' ∧ b ≤ l.length ∧ m = l.length - b ∧ H' F = some (.lst xs) ∧ DpAll K H' xs (ps.map patD) ∧ 0 < ps.length ∧ ps.length + (l.length - b) ≤ l.length + 1 ∧ dep (l.drop b) ≤ n ∧ l.length - b ≤ j ∧
          altOf (inn n) j ps (l.drop b) = altOf (inn n) r.length [p] r ∧ σ = [some (.str (Gx.mkS l)), some (.int (b : Nat)), some y, some (.ref F)]) (m0 := l.length - (l.length - r.length))
        ⟨l.length - r.length, r.length, [v], [p], v, s1.trans E2.same, t2, rfl, E2.at_, .cons (Gx.dp_same E2.same _ _ dv) .nil, by simp, by simp; omega, by rw [t3]; exact hcr, by omega, by rw [t3], rfl⟩ ?_
      rintro m σ H' ⟨b, j, xs, ps, y, s', hb', rfl, eF, dx, hp0, hpl, hcb, hj, hch, rfl⟩
      have hxl := Gx.dpAll_len dx
      rw [List.length_map] at hxl
      walk_at "g"
      rw [sl1]
      refine Gx.iteD (fun hst => ?_) (fun hst => ?_)
      · obtain ⟨z, hz⟩ : ∃ z, l.drop b = 124 :: z := by
          cases hd : l.drop b with
          | nil => rw [hd] at hst; cases hst
          | cons x z => rw [hd] at hst; cases hst; exact ⟨z, rfl⟩
        obtain ⟨b1, b2, _⟩ := suf_at hz
        obtain ⟨j, rfl⟩ : ∃ j0, j = j0 + 1 := ⟨j - 1, by omega⟩
        have hcz : dep z ≤ n := by
          rw [hz, dep_ne _ (by decide) (by decide)] at hcb
          omega
        have hch2 : altOf (inn n) (j + 1) ps (l.drop b) = (match chainT (inn n) z with | .ok p r => altOf (inn n) j (ps ++ [p]) r | .bad r => .bad r) := by rw [hz]; rfl
        rw [hch2] at hch
        refine ⟨fun σ' H'' => ∃ (b' j' : Nat) (xs' : List V) (ps' : List Pat) (y' : V), b < b' ∧ Same H H'' ∧ b' ≤ l.length ∧ H'' F = some (.lst xs') ∧ DpAll K H'' xs' (ps'.map patD) ∧ 0 < ps'.length ∧ ps'.length + (l.length - b') ≤ l.length + 1 ∧ dep (l.drop b') ≤ n ∧ l.length - b' ≤ j' ∧
            altOf (inn n) j' ps' (l.drop b') = altOf (inn n) r.length [p] r ∧ σ' = [some (.str (Gx.mkS l)), some (.int (b' : Nat)), some y', some (.ref F)], ?_, ?_⟩
        · rintro σ' H'' ⟨b', j', xs', ps', y', hlt, h⟩
          exact ⟨l.length - b', by omega, b', j', xs', ps', y', h.1, h.2.1, rfl, h.2.2⟩
        · walk_at "g"
          refine ⟨l, b + 1, rfl, by omega, hl, by rw [b2]; exact hcz, ?_⟩
          rw [b2]
          have hsf2 := chainT_suf (inn_suf n) z
          have hdn2 := chainT_dn (inn_dn n) z
          cases hb2 : chainT (inn n) z with
          | bad u =>
            rw [hb2] at hch
            dsimp only at hch
            rw [← hch] at q
            exact fun H4 d s4 nd hd => q H4 d (s'.trans s4) (fresh_of s' nd) hd
          | ok p2 u =>
            rw [hb2] at hch hsf2 hdn2
            dsimp only at hch
            rw [← b2] at hsf2
            obtain ⟨u1, u2, u3⟩ := suf_drop hsf2.1
            have hlt : u.length < (l.drop (b + 1)).length := hsf2.2
            rw [List.length_drop] at hlt
            have hul := u1.len
            intro H4 t2 v2 s4 ht2 dv2
            have eF4 := s4 _ _ eF
            walk_at "g"
            refine ⟨t2, _, rfl, ht2, rfl, ?_⟩
            walk_at "g"
            refine ⟨l.length - u.length, j, xs ++ [v2], ps ++ [p2], v2, by omega, Gx.Same.put (s'.trans s4) nF, u2, upd_same, ?_, by simp, by simp; omega, by rw [u3]; exact Nat.le_trans hdn2 hcz, by omega, by rw [u3]; exact hch, rfl⟩
            rw [List.map_append]
            have nl : Gx.noLs (ps.map patD ++ [p2].map patD) = true := by rw [← List.map_append]; exact noLs_pats _
            exact Gx.dpAll_tups (Gx.Tups.upd eF4) _ _ nl (Gx.dpAll_app (Gx.dpAll_same s4 _ _ dx) (.cons dv2 .nil))
      · have hstop : altOf (inn n) j ps (l.drop b) = .ok ps (l.drop b) := by
          cases j with
          | zero => rfl
          | succ j =>
            cases hd : l.drop b with
            | nil => rfl
            | cons x z =>
              rw [hd] at hst
              unfold altOf
              split
              · rename_i e; injection e with e _; subst e; exact absurd rfl hst
              · rfl
        rw [hstop] at hch
        rw [← hch] at q
        dsimp only at q
        walk_at "g"
        refine ⟨F, false, xs, ps, rfl, SqL.of eF, dx, hp0, fun H4 v4 s4 dv4 => ?_⟩
        walk_at "g"
        refine Gx.newT (by simp) (fun tt H5 E5 => ?_)
        refine q H5 tt v4 (s'.trans (s4.trans E5.same)) ?_ (Gx.dp_same E5.same _ _ dv4)
        rw [show l.length - (l.drop b).length = b by rw [List.length_drop]; omega]
        exact SqT.of E5.at_
theorem G_pattern_at (T : Txt K mg w) : ∀ n, FnOk P w K mg base (L2.CX P w) (4 * n + 4) T.f_pattern_at T.fd_pattern_at ["text", "at"] (spInn K T.a_BadText n)
  | 0 => ⟨fun _ _ _ _ h => h.elim, fun _ _ _ _ _ _ _ _ _ _ _ _ _ h => h.elim⟩
  | n + 1 => by
    have h1 := G_base_at T (G_pattern_at T n) (by omega)
    have h2 := G_item_at T h1
    have h3 := G_chain_at T h2 (by omega)
    have h4 := G_pattern_at1 T h3 (by omega)
    exact h4
end
end K13
namespace K13
open PySem PySem.Spec PyProof.Rows L2
local macro_rules | `(tactic| walk_at "con") => `(tactic| first | with_reducible refine Gx.conE K13.ks0 ?_ | with_reducible refine Gx.conE K13.ks1 ?_ | with_reducible refine Gx.conE K13.ks2 ?_ | with_reducible refine Gx.conE K13.ks3 ?_ | with_reducible refine Gx.conE K13.ks4 ?_ | with_reducible refine Gx.conE K13.ks5 ?_ | with_reducible refine Gx.conE K13.ks6 ?_ | with_reducible refine Gx.conE K13.ks7 ?_ | with_reducible refine Gx.conE K13.ks8 ?_ | with_reducible refine Gx.conE K13.ks9 ?_ | with_reducible refine Gx.conE K13.ks10 ?_ | with_reducible refine Gx.conE K13.ks11 ?_ | with_reducible refine Gx.conE K13.ks12 ?_ | with_reducible refine Gx.conE K13.ks13 ?_ | with_reducible refine Gx.conE K13.ks14 ?_ | with_reducible refine Gx.conE K13.ks15 ?_ | with_reducible refine Gx.conE K13.ks16 ?_ | with_reducible refine Gx.conE K13.ks17 ?_ | with_reducible refine Gx.conE K13.ks18 ?_ | with_reducible refine Gx.conE K13.ks19 ?_ | with_reducible refine Gx.conE K13.ks20 ?_ | with_reducible refine Gx.conE K13.ks21 ?_ | with_reducible refine Gx.conE K13.ks22 ?_ | with_reducible refine Gx.conE K13.ks23 ?_ | with_reducible refine Gx.conE K13.ks24 ?_ | with_reducible refine Gx.conE K13.ks25 ?_ | with_reducible refine Gx.conE K13.ks26 ?_ | with_reducible refine Gx.conE K13.ks27 ?_ | with_reducible refine Gx.conE K13.ks28 ?_ | with_reducible refine Gx.conE K13.ks29 ?_ | with_reducible refine Gx.conE K13.ks30 ?_ | with_reducible refine Gx.conE K13.ks31 ?_ | with_reducible refine Gx.conE K13.ks32 ?_ | with_reducible refine Gx.conE K13.ks33 ?_ | with_reducible refine Gx.conE K13.ks34 ?_ | with_reducible refine Gx.conE K13.ks35 ?_ | with_reducible refine Gx.conE K13.ks36 ?_ | with_reducible refine Gx.conE K13.ks37 ?_ | with_reducible refine Gx.conE K13.ks38 ?_ | with_reducible refine Gx.conE K13.ks39 ?_ | with_reducible refine Gx.conE K13.ks40 ?_ | with_reducible refine Gx.conE K13.ks41 ?_ | with_reducible refine Gx.conE K13.ks42 ?_ | with_reducible refine Gx.conE K13.ks43 ?_ | with_reducible refine Gx.conE K13.ks44 ?_ | with_reducible refine Gx.conE K13.ks45 ?_ | with_reducible refine Gx.conE K13.ks46 ?_ | with_reducible refine Gx.conE K13.ks47 ?_ | with_reducible refine Gx.conE K13.ks48 ?_ | with_reducible refine Gx.conE K13.ks49 ?_ | with_reducible refine Gx.conE K13.ks50 ?_ | with_reducible refine Gx.conE K13.ks51 ?_ | with_reducible refine Gx.conE K13.ks52 ?_ | with_reducible refine Gx.conE K13.ks53 ?_ | with_reducible refine Gx.conE K13.ks54 ?_ | with_reducible refine Gx.conE K13.ks55 ?_ | with_reducible refine Gx.conE K13.ks56 ?_ | with_reducible refine Gx.conE K13.ks57 ?_ | with_reducible refine Gx.conE K13.ks58 ?_ | with_reducible refine Gx.conE K13.ks59 ?_ | with_reducible refine Gx.conE K13.ks60 ?_ | with_reducible refine Gx.conE K13.ks61 ?_ | with_reducible refine Gx.conE K13.ks62 ?_ | with_reducible refine Gx.conE K13.ks63 ?_)
section
variable {P : Program} {w : World} {K : PySem.W.Frag} {mg : Str → Option Value} {base : Heap}
/-! ### lens trees, their data, their text, their reader -/
inductive Ln where
  | copy (p : Pat)
  | swap (p : Pat) (to : List Nat)
  | hide (p : Pat) (a b : List Nat)
  | again (t : Ln)
  | two (k : Nat) (t u : Ln)
def copyS : List Nat := [99, 111, 112, 121]
def swapS : List Nat := [115, 119, 97, 112]
def hideS : List Nat := [104, 105, 100, 101]
def againS : List Nat := [97, 103, 97, 105, 110]
def twoS : Nat → List Nat
  | 0 => [116, 104, 101, 110]
  | 1 => [111, 114]
  | 2 => [107, 101, 121, 101, 100]
  | _ => [97, 102, 116, 101, 114]
def lnD : Ln → PyData
  | .copy p => .tuple [.str (Gx.mkS copyS), patD p]
  | .swap p to => .tuple [.str (Gx.mkS swapS), patD p, .str (Gx.mkS to)]
  | .hide p a b => .tuple [.str (Gx.mkS hideS), patD p, .str (Gx.mkS a), .str (Gx.mkS b)]
  | .again t => .tuple [.str (Gx.mkS againS), lnD t]
  | .two k t u => .tuple [.str (Gx.mkS (twoS k)), lnD t, lnD u]
def Ln.depth : Ln → Nat
  | .copy p => p.depth + 1
  | .swap p _ => p.depth + 1
  | .hide p _ _ => p.depth + 1
  | .again t => t.depth + 1
  | .two _ t u => max t.depth u.depth + 1
/-- all texts within are texts of signs -/
def Ln.sg : Ln → Prop
  | .copy p => p.sg
  | .swap p to => p.sg ∧ Sg to
  | .hide p a b => p.sg ∧ Sg a ∧ Sg b
  | .again t => t.sg
  | .two _ t u => t.sg ∧ u.sg
theorem Pat.depth_pos (p : Pat) : 1 ≤ p.depth := by cases p <;> simp [Pat.depth]
theorem Ln.depth_pos (t : Ln) : 1 ≤ t.depth := by cases t <;> simp [Ln.depth]
theorem Ln.depD : ∀ t : Ln, PyData.depth (lnD t) = t.depth
  | .copy p => by have := Pat.depD p; have := Pat.depth_pos p; simp only [lnD, PyData.depth, PyData.depthAll, Ln.depth]; omega
  | .swap p to => by have := Pat.depD p; have := Pat.depth_pos p; simp only [lnD, PyData.depth, PyData.depthAll, Ln.depth]; omega
  | .hide p a b => by have := Pat.depD p; have := Pat.depth_pos p; simp only [lnD, PyData.depth, PyData.depthAll, Ln.depth]; omega
  | .again t => by have := Ln.depD t; have := Ln.depth_pos t; simp only [lnD, PyData.depth, PyData.depthAll, Ln.depth]; omega
  | .two k t u => by have := Ln.depD t; have := Ln.depD u; have := Ln.depth_pos t; simp only [lnD, PyData.depth, PyData.depthAll, Ln.depth]; omega
theorem two_ok : ∀ k : Nat, PyData.strOk (Gx.mkS (twoS k)) = true
  | 0 => by decide +kernel
  | 1 => by decide +kernel
  | 2 => by decide +kernel
  | _ + 3 => by show PyData.strOk (Gx.mkS [97, 102, 116, 101, 114]) = true; decide +kernel
theorem noL_ln : ∀ t : Ln, Gx.noL (lnD t) = true
  | .copy p => by simp only [lnD, Gx.noL, Gx.noLs, noL_pat p, Bool.and_self]
  | .swap p to => by simp only [lnD, Gx.noL, Gx.noLs, noL_pat p, Bool.and_self]
  | .hide p a b => by simp only [lnD, Gx.noL, Gx.noLs, noL_pat p, Bool.and_self]
  | .again t => by simp only [lnD, Gx.noL, Gx.noLs, noL_ln t, Bool.and_self]
  | .two k t u => by simp only [lnD, Gx.noL, Gx.noLs, noL_ln t, noL_ln u, Bool.and_self]
def copyO : List Nat := [99, 111, 112, 121, 123]
def hideO : List Nat := [104, 105, 100, 101, 123]
def swapO : List Nat := [115, 119, 97, 112, 123]
def againO : List Nat := [97, 103, 97, 105, 110, 40]
def twoO (k : Nat) : List Nat := twoS k ++ [40]
def opL : List (List Nat) := [copyO, hideO, swapO, twoO 0, twoO 1, twoO 2, twoO 3, againO]
/-- how far a word stands here -/
def shr : List Nat → List Nat → Nat
  | c :: s, d :: w => if c = d then shr s w + 1 else 0
  | _, _ => 0
theorem shr_le : ∀ s w : List Nat, shr s w ≤ s.length ∧ shr s w ≤ w.length
  | [], w => by simp [shr]
  | c :: s, [] => by simp [shr]
  | c :: s, d :: w => by
    have := shr_le s w
    unfold shr
    split <;> simp <;> omega
theorem shr_full : ∀ s w : List Nat, shr s w = w.length → s = w ++ s.drop w.length
  | s, [], _ => rfl
  | [], d :: w, h => by simp [shr] at h
  | c :: s, d :: w, h => by
    unfold shr at h
    split at h
    · rename_i e
      subst e
      have := shr_full s w (by simpa using h)
      show c :: s = c :: (w ++ s.drop w.length)
      rw [← this]
    · simp at h
theorem shr_app : ∀ w r : List Nat, shr (w ++ r) w = w.length
  | [], r => by cases r <;> rfl
  | c :: w, r => by
    show (if c = c then shr (w ++ r) w + 1 else 0) = _
    rw [if_pos rfl, shr_app w r]
    rfl
def lng (ws : List (List Nat)) (s : List Nat) : Nat := (ws.map (shr s)).foldl max 0
def opnL : List (List Nat) → Nat → List Nat → Rs (List Nat)
  | [], m, s => .bad (s.drop m)
  | w :: ws, m, s => if shr s w = w.length then .ok w (s.drop w.length) else opnL ws (max m (shr s w)) s
def opn (s : List Nat) : Rs (List Nat) := opnL opL 0 s
def Rs.bind {α β : Type} (x : Rs α) (f : α → List Nat → Rs β) : Rs β := match x with
  | .ok a r => f a r
  | .bad r => .bad r
def fin {α : Type} (c : Nat) (a : α) : List Nat → Rs α
  | [] => .bad []
  | d :: r => if d = c then .ok a r else .bad (d :: r)
/-- signs of which none is there before -/
def spanD : List Nat → List Nat → List Nat × List Nat
  | _, [] => ([], [])
  | x, c :: r => if c ∈ sgs ∧ c ∉ x then (c :: (spanD (x ++ [c]) r).1, (spanD (x ++ [c]) r).2) else ([], c :: r)
def ren (s : List Nat) : Rs (List Nat) := if (spanD [] s).1.length < 5 then .bad (spanD [] s).2 else .ok (spanD [] s).1 (spanD [] s).2
def copyR (I : List Nat → Rs Pat) (s : List Nat) : Rs Ln := (I s).bind fun p t => fin 125 (.copy p) t
def swapR (I : List Nat → Rs Pat) (s : List Nat) : Rs Ln := (I s).bind fun p t => (fin 44 () t).bind fun _ u => (ren u).bind fun to v => fin 125 (.swap p to) v
def hideR (I : List Nat → Rs Pat) (s : List Nat) : Rs Ln := (I s).bind fun p t => (fin 44 () t).bind fun _ u => (fin 44 () (spanS u).2).bind fun _ v => fin 125 (.hide p (spanS u).1 (spanS v).1) (spanS v).2
def againR (L : List Nat → Rs Ln) (s : List Nat) : Rs Ln := (L s).bind fun t u => fin 41 (.again t) u
def twoR (k : Nat) (L : List Nat → Rs Ln) (s : List Nat) : Rs Ln := (L s).bind fun t u => (fin 44 () u).bind fun _ v => (L v).bind fun x y => fin 41 (.two k t x) y
def bodyR (I : List Nat → Rs Pat) (L : List Nat → Rs Ln) (w s : List Nat) : Rs Ln :=
  if w = copyO then copyR I s else if w = hideO then hideR I s else if w = swapO then swapR I s
  else if w = twoO 0 then twoR 0 L s else if w = twoO 1 then twoR 1 L s else if w = twoO 2 then twoR 2 L s else if w = twoO 3 then twoR 3 L s
  else againR L s
def rdLn : Nat → List Nat → Rs Ln
  | 0 => fun s => .bad s
  | n + 1 => fun s => (opn s).bind (bodyR (inn (n + 1)) (rdLn n))
/-- read_lens -/
def readL (n : Nat) (l : List Nat) : Rs Ln := match rdLn n l with
  | .ok t [] => .ok t []
  | .ok _ (c :: r) => .bad (c :: r)
  | .bad r => .bad r
theorem opnL_ok : ∀ (ws : List (List Nat)) (m : Nat) (s w r : List Nat), opnL ws m s = .ok w r → w ∈ ws ∧ s = w ++ r
  | [], m, s, w, r, h => by cases h
  | x :: ws, m, s, w, r, h => by
    unfold opnL at h
    split at h
    · rename_i e
      cases h
      exact ⟨List.mem_cons_self, shr_full s x e⟩
    · obtain ⟨a, b⟩ := opnL_ok ws _ s w r h
      exact ⟨List.mem_cons_of_mem _ a, b⟩
theorem opnL_suf : ∀ (ws : List (List Nat)) (m : Nat) (s : List Nat), (opnL ws m s).Suf s
  | [], m, s => ⟨s.take m, (List.take_append_drop m s).symm⟩
  | x :: ws, m, s => by
    unfold opnL
    split
    · exact ⟨s.take x.length, (List.take_append_drop _ s).symm⟩
    · exact opnL_suf ws _ s
theorem fin_suf {α : Type} (c : Nat) (a : α) : ∀ s : List Nat, (fin c a s).Suf s
  | [] => Suf.refl _
  | d :: r => by
    show Rs.Suf (if d = c then Rs.ok a r else Rs.bad (d :: r)) (d :: r)
    split
    · exact ⟨[d], rfl⟩
    · exact Suf.refl _
theorem bind_suf {α β : Type} {x : Rs α} {f : α → List Nat → Rs β} {s : List Nat} (h : x.Suf s) (g : ∀ a r, x = .ok a r → (f a r).Suf r) : (x.bind f).Suf s := by
  cases x with
  | bad r => exact h
  | ok a r =>
    have h2 := g a r rfl
    show (f a r).Suf s
    cases e : f a r with
    | bad t => rw [e] at h2; exact Suf.trans h2 h
    | ok b t => rw [e] at h2; exact Suf.trans h2 h
theorem spanD_suf : ∀ (s x : List Nat), s = (spanD x s).1 ++ (spanD x s).2
  | [], x => rfl
  | c :: r, x => by
    rw [spanD]
    split
    · rw [List.cons_append, ← spanD_suf r]
    · rfl
theorem spanD_sg : ∀ (s x : List Nat), Sg (spanD x s).1
  | [], x => fun c h => by cases h
  | c :: r, x => by
    rw [spanD]
    split
    · rename_i hc
      intro d hd
      rcases List.mem_cons.mp hd with rfl | hd
      · exact hc.1
      · exact spanD_sg r _ d hd
    · intro d hd; cases hd
theorem spanD_dep (s x : List Nat) : dep (spanD x s).2 = dep s := by
  conv => rhs; rw [spanD_suf s x, dep_sg _ (spanD_sg s x)]
theorem ren_suf (s : List Nat) : (ren s).Suf s := by
  unfold ren
  split
  · exact ⟨_, spanD_suf s []⟩
  · exact ⟨_, spanD_suf s []⟩
theorem spanS_Suf (s : List Nat) : Suf (spanS s).2 s := ⟨_, spanS_suf s⟩
theorem Rs.Suf.trans {α : Type} {x : Rs α} {r s : List Nat} (h : x.Suf r) (g : K13.Suf r s) : x.Suf s := by
  cases x with
  | bad t => exact K13.Suf.trans h g
  | ok a t => exact K13.Suf.trans h g
section
variable {I : List Nat → Rs Pat} {L : List Nat → Rs Ln}
theorem copyR_suf (hI : ∀ s, (I s).Suf s) (s : List Nat) : (copyR I s).Suf s := bind_suf (hI s) fun _ _ _ => fin_suf _ _ _
theorem swapR_suf (hI : ∀ s, (I s).Suf s) (s : List Nat) : (swapR I s).Suf s := bind_suf (hI s) fun _ _ _ => bind_suf (fin_suf _ _ _) fun _ _ _ => bind_suf (ren_suf _) fun _ _ _ => fin_suf _ _ _
theorem hideR_suf (hI : ∀ s, (I s).Suf s) (s : List Nat) : (hideR I s).Suf s := bind_suf (hI s) fun _ _ _ => bind_suf (fin_suf _ _ _) fun _ u _ => bind_suf ((fin_suf _ _ _).trans (spanS_Suf u)) fun _ v _ => (fin_suf _ _ _).trans (spanS_Suf v)
theorem againR_suf (hL : ∀ s, (L s).Suf s) (s : List Nat) : (againR L s).Suf s := bind_suf (hL s) fun _ _ _ => fin_suf _ _ _
theorem twoR_suf (k : Nat) (hL : ∀ s, (L s).Suf s) (s : List Nat) : (twoR k L s).Suf s := bind_suf (hL s) fun _ _ _ => bind_suf (fin_suf _ _ _) fun _ _ _ => bind_suf (hL _) fun _ _ _ => fin_suf _ _ _
theorem bodyR_suf (hI : ∀ s, (I s).Suf s) (hL : ∀ s, (L s).Suf s) (w s : List Nat) : (bodyR I L w s).Suf s := by
  unfold bodyR
  repeat' split
  · exact copyR_suf hI s
  · exact hideR_suf hI s
  · exact swapR_suf hI s
  · exact twoR_suf _ hL s
  · exact twoR_suf _ hL s
  · exact twoR_suf _ hL s
  · exact twoR_suf _ hL s
  · exact againR_suf hL s
end
theorem rdLn_suf : ∀ (n : Nat) (s : List Nat), (rdLn n s).Suf s
  | 0, s => Suf.refl _
  | n + 1, s => bind_suf (opnL_suf _ _ _) fun w r _ => bodyR_suf (inn_suf _) (rdLn_suf n) w r
/-- brackets -/
theorem bind_dn {α β : Type} {x : Rs α} {f : α → List Nat → Rs β} {s : List Nat} {d : Nat} (h : ∀ a r, x = .ok a r → ∀ b t, f a r = .ok b t → dep t ≤ d) : ∀ b t, x.bind f = .ok b t → dep t ≤ d := by
  intro b t e
  cases x with
  | bad r => cases e
  | ok a r => exact h a r rfl b t e
theorem fin_ok {α : Type} {c : Nat} {a b : α} {s t : List Nat} (h : fin c a s = .ok b t) : b = a ∧ s = c :: t := by
  cases s with
  | nil => cases h
  | cons d r =>
    have h : (if d = c then Rs.ok a r else Rs.bad (d :: r)) = .ok b t := h
    split at h
    · rename_i e
      cases h
      exact ⟨rfl, by rw [e]⟩
    · cases h
theorem bind_ok {α β : Type} {x : Rs α} {f : α → List Nat → Rs β} {b : β} {t : List Nat} (h : x.bind f = .ok b t) : ∃ a r, x = .ok a r ∧ f a r = .ok b t := by
  cases x with
  | bad r => cases h
  | ok a r => exact ⟨a, r, rfl, h⟩
theorem ren_ok {s to t : List Nat} (h : ren s = .ok to t) : to = (spanD [] s).1 ∧ t = (spanD [] s).2 := by
  unfold ren at h
  split at h
  · cases h
  · cases h; exact ⟨rfl, rfl⟩
/-- what an opener leaves open -/
theorem op_dep {w r : List Nat} (h : w ∈ opL) : (w = copyO ∨ w = hideO ∨ w = swapO) ∧ dep (w ++ r) = dep r ∨ (w ≠ copyO ∧ w ≠ hideO ∧ w ≠ swapO) ∧ dep (w ++ r) = dep r + 1 := by
  unfold opL at h
  simp only [List.mem_cons, List.not_mem_nil, or_false] at h
  rcases h with rfl | rfl | rfl | rfl | rfl | rfl | rfl | rfl
  · exact .inl ⟨.inl rfl, rfl⟩
  · exact .inl ⟨.inr (.inl rfl), rfl⟩
  · exact .inl ⟨.inr (.inr rfl), rfl⟩
  all_goals exact .inr ⟨⟨by decide, by decide, by decide⟩, rfl⟩
theorem body_dn {I : List Nat → Rs Pat} {L : List Nat → Rs Ln} (hI : ∀ s, (I s).Dn s) (hL : ∀ s, (L s).Dn s) {w s : List Nat} (hw : w ∈ opL) {t : Ln} {r : List Nat} (h : bodyR I L w s = .ok t r) : dep r ≤ dep (w ++ s) := by
  have i1 : ∀ {s p t}, I s = .ok p t → dep t ≤ dep s := fun {s p t} e => by have := hI s; rw [e] at this; exact this
  have l1 : ∀ {s p t}, L s = .ok p t → dep t ≤ dep s := fun {s p t} e => by have := hL s; rw [e] at this; exact this
  have f1 : ∀ {α : Type} {c : Nat} {a b : α} {s t : List Nat}, c ≠ 40 → c ≠ 41 → fin c a s = .ok b t → dep t = dep s := fun h1 h2 e => by
    obtain ⟨_, rfl⟩ := fin_ok e
    rw [dep_ne _ h1 h2]
  have f41 : ∀ {α : Type} {a b : α} {s t : List Nat}, fin 41 a s = .ok b t → dep t ≤ dep s + 1 := fun e => by
    obtain ⟨_, rfl⟩ := fin_ok e
    rw [dep_41]; omega
  rcases op_dep (r := s) hw with ⟨hk, e⟩ | ⟨⟨n1, n2, n3⟩, e⟩
  · rw [e]
    rcases hk with rfl | rfl | rfl
    · have h : copyR I s = .ok t r := h
      obtain ⟨p, a, h1, h⟩ := bind_ok h
      have := i1 h1
      have := f1 (by decide) (by decide) h
      omega
    · have h : hideR I s = .ok t r := h
      obtain ⟨p, a, h1, h⟩ := bind_ok h
      obtain ⟨_, b, h2, h⟩ := bind_ok h
      obtain ⟨_, c, h3, h⟩ := bind_ok h
      have := i1 h1
      have := f1 (by decide) (by decide) h2
      have := f1 (by decide) (by decide) h3
      have := f1 (by decide) (by decide) h
      have := spanS_dep b
      have := spanS_dep c
      omega
    · have h : swapR I s = .ok t r := h
      obtain ⟨p, a, h1, h⟩ := bind_ok h
      obtain ⟨_, b, h2, h⟩ := bind_ok h
      obtain ⟨_, c, h3, h⟩ := bind_ok h
      have := i1 h1
      have := f1 (by decide) (by decide) h2
      have := f1 (by decide) (by decide) h
      have e3 := (ren_ok h3).2
      have := spanD_dep b []
      rw [← e3] at this
      omega
  · rw [e]
    have h2 : ∀ k, twoR k L s = .ok t r → dep r ≤ dep s + 1 := fun k h => by
      obtain ⟨x, a, h1, h⟩ := bind_ok h
      obtain ⟨_, b, h2, h⟩ := bind_ok h
      obtain ⟨y, c, h3, h⟩ := bind_ok h
      have := l1 h1
      have := f1 (by decide) (by decide) h2
      have := l1 h3
      have := f41 h
      omega
    unfold bodyR at h
    rw [if_neg n1, if_neg n2, if_neg n3] at h
    repeat' split at h
    · exact h2 _ h
    · exact h2 _ h
    · exact h2 _ h
    · exact h2 _ h
    · obtain ⟨x, a, h1, h⟩ := bind_ok (show (L s).bind (fun t u => fin 41 (.again t) u) = .ok t r from h)
      have := l1 h1
      have := f41 h
      omega
theorem rdLn_dn : ∀ (n : Nat) (s : List Nat), (rdLn n s).Dn s
  | 0, s => trivial
  | n + 1, s => by
    cases e : rdLn (n + 1) s with
    | bad r => exact trivial
    | ok t r =>
      obtain ⟨w, u, h1, h2⟩ := bind_ok (show (opn s).bind (bodyR (inn (n + 1)) (rdLn n)) = .ok t r from e)
      obtain ⟨hw, rfl⟩ := opnL_ok _ _ _ _ _ h1
      exact body_dn (inn_dn _) (rdLn_dn n) hw h2
end
end K13
namespace K13
open PySem PySem.Spec PyProof.Rows L2
local macro_rules | `(tactic| walk_at "con") => `(tactic| first | with_reducible refine Gx.conE K13.ks0 ?_ | with_reducible refine Gx.conE K13.ks1 ?_ | with_reducible refine Gx.conE K13.ks2 ?_ | with_reducible refine Gx.conE K13.ks3 ?_ | with_reducible refine Gx.conE K13.ks4 ?_ | with_reducible refine Gx.conE K13.ks5 ?_ | with_reducible refine Gx.conE K13.ks6 ?_ | with_reducible refine Gx.conE K13.ks7 ?_ | with_reducible refine Gx.conE K13.ks8 ?_ | with_reducible refine Gx.conE K13.ks9 ?_ | with_reducible refine Gx.conE K13.ks10 ?_ | with_reducible refine Gx.conE K13.ks11 ?_ | with_reducible refine Gx.conE K13.ks12 ?_ | with_reducible refine Gx.conE K13.ks13 ?_ | with_reducible refine Gx.conE K13.ks14 ?_ | with_reducible refine Gx.conE K13.ks15 ?_ | with_reducible refine Gx.conE K13.ks16 ?_ | with_reducible refine Gx.conE K13.ks17 ?_ | with_reducible refine Gx.conE K13.ks18 ?_ | with_reducible refine Gx.conE K13.ks19 ?_ | with_reducible refine Gx.conE K13.ks20 ?_ | with_reducible refine Gx.conE K13.ks21 ?_ | with_reducible refine Gx.conE K13.ks22 ?_ | with_reducible refine Gx.conE K13.ks23 ?_ | with_reducible refine Gx.conE K13.ks24 ?_ | with_reducible refine Gx.conE K13.ks25 ?_ | with_reducible refine Gx.conE K13.ks26 ?_ | with_reducible refine Gx.conE K13.ks27 ?_ | with_reducible refine Gx.conE K13.ks28 ?_ | with_reducible refine Gx.conE K13.ks29 ?_ | with_reducible refine Gx.conE K13.ks30 ?_ | with_reducible refine Gx.conE K13.ks31 ?_ | with_reducible refine Gx.conE K13.ks32 ?_ | with_reducible refine Gx.conE K13.ks33 ?_ | with_reducible refine Gx.conE K13.ks34 ?_ | with_reducible refine Gx.conE K13.ks35 ?_ | with_reducible refine Gx.conE K13.ks36 ?_ | with_reducible refine Gx.conE K13.ks37 ?_ | with_reducible refine Gx.conE K13.ks38 ?_ | with_reducible refine Gx.conE K13.ks39 ?_ | with_reducible refine Gx.conE K13.ks40 ?_ | with_reducible refine Gx.conE K13.ks41 ?_ | with_reducible refine Gx.conE K13.ks42 ?_ | with_reducible refine Gx.conE K13.ks43 ?_ | with_reducible refine Gx.conE K13.ks44 ?_ | with_reducible refine Gx.conE K13.ks45 ?_ | with_reducible refine Gx.conE K13.ks46 ?_ | with_reducible refine Gx.conE K13.ks47 ?_ | with_reducible refine Gx.conE K13.ks48 ?_ | with_reducible refine Gx.conE K13.ks49 ?_ | with_reducible refine Gx.conE K13.ks50 ?_ | with_reducible refine Gx.conE K13.ks51 ?_ | with_reducible refine Gx.conE K13.ks52 ?_ | with_reducible refine Gx.conE K13.ks53 ?_ | with_reducible refine Gx.conE K13.ks54 ?_ | with_reducible refine Gx.conE K13.ks55 ?_ | with_reducible refine Gx.conE K13.ks56 ?_ | with_reducible refine Gx.conE K13.ks57 ?_ | with_reducible refine Gx.conE K13.ks58 ?_ | with_reducible refine Gx.conE K13.ks59 ?_ | with_reducible refine Gx.conE K13.ks60 ?_ | with_reducible refine Gx.conE K13.ks61 ?_ | with_reducible refine Gx.conE K13.ks62 ?_ | with_reducible refine Gx.conE K13.ks63 ?_)
section
variable {P : Program} {w : World} {K : PySem.W.Frag} {mg : Str → Option Value} {base : Heap}
/-! ### what is read has signs only, and no more leaves and stars than its part of the text shows -/
def isW (c : Nat) : Bool := c == 60 || c == 91 || c == 42
def isSep (c : Nat) : Bool := c == 44 || c == 125 || c == 123
/-- the leaves and stars ahead of the next comma or curly bracket -/
def sw : List Nat → Nat
  | [] => 0
  | c :: r => if isSep c = true then 0 else sw r + (if isW c = true then 1 else 0)
theorem sw_cons (c : Nat) (s : List Nat) (h : isSep c = false) : sw (c :: s) = sw s + (if isW c = true then 1 else 0) := by
  rw [sw, h, if_neg (by decide)]
theorem sw_sep (c : Nat) (s : List Nat) (h : isSep c = true) : sw (c :: s) = 0 := by
  rw [sw, if_pos h]
/-- the most of all parts -/
def msw : List Nat → Nat
  | [] => 0
  | c :: r => max (sw (c :: r)) (msw r)
theorem msw_cons (c : Nat) (r : List Nat) : msw (c :: r) = max (sw (c :: r)) (msw r) := rfl
theorem sw_msw (s : List Nat) : sw s ≤ msw s := by
  cases s with
  | nil => exact Nat.le_refl _
  | cons c r => rw [msw]; omega
theorem sw_sg : ∀ {l : List Nat} (r : List Nat), Sg l → sw (l ++ r) = sw r
  | [], r, _ => rfl
  | c :: l, r, h => by
    have hc := h c List.mem_cons_self
    have h2 := sw_sg (l := l) r fun x hx => h x (List.mem_cons_of_mem _ hx)
    unfold sgs at hc
    simp only [List.mem_cons, List.not_mem_nil, or_false] at hc
    rw [List.cons_append]
    rcases hc with rfl | rfl | rfl | rfl | rfl <;> (rw [sw_cons _ _ (by decide), if_neg (by decide)]; exact h2)
theorem spanS_sw (s : List Nat) : sw (spanS s).2 = sw s := by
  conv => rhs; rw [spanS_suf s, sw_sg _ (spanS_sg s)]
theorem spanA_sw (s : List Nat) (x : Nat) : sw (spanA x s).2 = sw s := by
  conv => rhs; rw [spanA_suf s x, sw_sg _ (spanA_sg s x)]
def Good (I : List Nat → Rs Pat) : Prop := ∀ s p r, I s = .ok p r → p.sg ∧ p.wt + sw r ≤ sw s
theorem leaf_good {sq : Bool} {r t : List Nat} {p : Pat} (h : leafOf sq r = .ok p t) : p.sg ∧ p.wt = 1 ∧ sw t ≤ sw r := by
  unfold leafOf at h
  split at h
  · split at h
    · rename_i u e
      cases h
      refine ⟨spanS_sg r, rfl, ?_⟩
      have h2 := spanS_sw r
      rw [e, sw_cons _ _ (by decide), if_neg (by decide)] at h2
      omega
    · cases h
  · split at h
    · cases h
    · split at h
      · rename_i u e
        cases h
        refine ⟨spanA_sg r 0, rfl, ?_⟩
        have h2 := spanA_sw r 0
        rw [e, sw_cons _ _ (by decide), if_neg (by decide)] at h2
        omega
      · cases h
section
variable {I : List Nat → Rs Pat} (hI : Good I) (hS : ∀ s, (I s).Suf s)
include hI
theorem base_good : Good (baseOf I) := by
  intro s p r h
  cases s with
  | nil => cases h
  | cons c s =>
    by_cases h60 : c = 60
    · subst h60
      obtain ⟨a, b, d⟩ := leaf_good (show leafOf false s = .ok p r from h)
      rw [sw_cons _ _ (by decide), if_pos (by decide)]
      exact ⟨a, by omega⟩
    · by_cases h91 : c = 91
      · subst h91
        obtain ⟨a, b, d⟩ := leaf_good (show leafOf true s = .ok p r from h)
        rw [sw_cons _ _ (by decide), if_pos (by decide)]
        exact ⟨a, by omega⟩
      · by_cases h40 : c = 40
        · subst h40
          have h' : closeOf (I s) = .ok p r := h
          cases e : I s with
          | bad t => rw [e] at h'; cases h'
          | ok p' t =>
            rw [e] at h'
            obtain ⟨a, b⟩ := hI s p' t e
            cases t with
            | nil => cases h'
            | cons d t =>
              by_cases h41 : d = 41
              · subst h41
                rw [closeOf_41] at h'
                cases h'
                rw [sw_cons _ _ (by decide)] at b ⊢
                rw [if_neg (by decide)] at b ⊢
                exact ⟨a, by omega⟩
              · rw [closeOf_ne h41] at h'
                cases h'
        · have eb : baseOf I (c :: s) = .bad (c :: s) := by
            unfold baseOf
            split
            · rename_i e; injection e with e _; exact absurd e h60
            · rename_i e; injection e with e _; exact absurd e h91
            · rename_i e; injection e with e _; exact absurd e h40
            · rfl
          rw [eb] at h
          cases h
omit hI in
theorem stars_good : ∀ (s : List Nat) (p : Pat), p.sg → (stars p s).1.sg ∧ (stars p s).1.wt + sw (stars p s).2 ≤ p.wt + sw s
  | [], p, h => ⟨h, Nat.le_refl _⟩
  | c :: s, p, h => by
    by_cases h42 : c = 42
    · subst h42
      obtain ⟨a, b⟩ := stars_good s (.star p) h
      rw [show stars p (42 :: s) = stars (.star p) s from rfl]
      rw [sw_cons _ _ (by decide), if_pos (by decide)]
      exact ⟨a, by show _ ≤ p.wt + (sw s + 1); have : (Pat.star p).wt = p.wt + 1 := rfl; omega⟩
    · rw [stars_ne h42]
      exact ⟨h, Nat.le_refl _⟩
theorem item_good : Good (itemOf I) := by
  intro s p r h
  unfold itemOf at h
  cases e : baseOf I s with
  | bad t => rw [e] at h; cases h
  | ok p' t =>
    rw [e] at h
    cases h
    obtain ⟨a, b⟩ := base_good hI s p' t e
    obtain ⟨c, d⟩ := stars_good t p' a
    exact ⟨c, by omega⟩
omit hI in
def sgs_ (ps : List Pat) : Prop := ∀ p ∈ ps, p.sg
def wts (ps : List Pat) : Nat := (ps.map Pat.wt).sum
omit hI in
theorem fold_good (b : Bool) : ∀ ps : List Pat, ps ≠ [] → sgs_ ps → (fold b ps).sg ∧ (fold b ps).wt = wts ps
  | [], h, _ => absurd rfl h
  | [p], _, h => ⟨h p (by simp), by simp [wts, fold]⟩
  | p :: q :: r, _, h => by
    obtain ⟨a, c⟩ := fold_good b (q :: r) (by simp) fun x hx => h x (List.mem_cons_of_mem _ hx)
    exact ⟨⟨h p (by simp), a⟩, by show p.wt + (fold b (q :: r)).wt = _; rw [c]; simp [wts]⟩
theorem chain_good : ∀ (m : Nat) (ps : List Pat) (s : List Nat) (qs : List Pat) (r : List Nat), chainOf I m ps s = .ok qs r → sgs_ ps → sgs_ qs ∧ wts qs + sw r ≤ wts ps + sw s ∧ (ps ≠ [] → qs ≠ [])
  | 0, ps, s, qs, r, h, g => by cases h; exact ⟨g, Nat.le_refl _, id⟩
  | m + 1, ps, s, qs, r, h, g => by
    unfold chainOf at h
    split at h
    · cases e : itemOf I s with
      | bad t => rw [e] at h; cases h
      | ok p t =>
        rw [e] at h
        obtain ⟨a, b⟩ := item_good hI s p t e
        obtain ⟨c, d, f⟩ := chain_good m (ps ++ [p]) t qs r h fun x hx => by
          rcases List.mem_append.mp hx with hx | hx
          · exact g x hx
          · rw [List.mem_singleton.mp hx]; exact a
        refine ⟨c, ?_, fun _ => f (by simp)⟩
        have : wts (ps ++ [p]) = wts ps + p.wt := by simp [wts]
        omega
    · cases h; exact ⟨g, Nat.le_refl _, id⟩
theorem chainT_good : Good (chainT I) := by
  intro s p r h
  unfold chainT at h
  cases e : itemOf I s with
  | bad t => rw [e] at h; cases h
  | ok p' t =>
    rw [e] at h
    dsimp only at h
    obtain ⟨a, b⟩ := item_good hI s p' t e
    cases e2 : chainOf I t.length [p'] t with
    | bad u => rw [e2] at h; cases h
    | ok qs u =>
      rw [e2] at h
      cases h
      obtain ⟨c, d, f⟩ := chain_good hI t.length [p'] t qs r e2 fun x hx => by rw [List.mem_singleton.mp hx]; exact a
      obtain ⟨g1, g2⟩ := fold_good true qs (f (by simp)) c
      have : wts [p'] = p'.wt := by simp [wts]
      exact ⟨g1, by omega⟩
theorem alt_good : ∀ (m : Nat) (ps : List Pat) (s : List Nat) (qs : List Pat) (r : List Nat), altOf I m ps s = .ok qs r → sgs_ ps → sgs_ qs ∧ wts qs + sw r ≤ wts ps + sw s ∧ (ps ≠ [] → qs ≠ [])
  | 0, ps, s, qs, r, h, g => by cases h; exact ⟨g, Nat.le_refl _, id⟩
  | m + 1, ps, s, qs, r, h, g => by
    unfold altOf at h
    split at h
    · rename_i t
      cases e : chainT I t with
      | bad t => rw [e] at h; cases h
      | ok p u =>
        rw [e] at h
        obtain ⟨a, b⟩ := chainT_good hI t p u e
        obtain ⟨c, d, f⟩ := alt_good m (ps ++ [p]) u qs r h fun x hx => by
          rcases List.mem_append.mp hx with hx | hx
          · exact g x hx
          · rw [List.mem_singleton.mp hx]; exact a
        refine ⟨c, ?_, fun _ => f (by simp)⟩
        have : wts (ps ++ [p]) = wts ps + p.wt := by simp [wts]
        rw [sw_cons _ _ (by decide)]
        omega
    · cases h; exact ⟨g, Nat.le_refl _, id⟩
theorem pat_good : Good (patT I) := by
  intro s p r h
  unfold patT at h
  cases e : chainT I s with
  | bad t => rw [e] at h; cases h
  | ok p' t =>
    rw [e] at h
    dsimp only at h
    obtain ⟨a, b⟩ := chainT_good hI s p' t e
    cases e2 : altOf I t.length [p'] t with
    | bad u => rw [e2] at h; cases h
    | ok qs u =>
      rw [e2] at h
      cases h
      obtain ⟨c, d, f⟩ := alt_good hI t.length [p'] t qs r e2 fun x hx => by rw [List.mem_singleton.mp hx]; exact a
      obtain ⟨g1, g2⟩ := fold_good false qs (f (by simp)) c
      have : wts [p'] = p'.wt := by simp [wts]
      exact ⟨g1, by omega⟩
end
theorem inn_good : ∀ n, Good (inn n)
  | 0 => fun s p r h => by cases h
  | n + 1 => pat_good (inn_good n)
theorem msw_app_le (a b : List Nat) : sw (a ++ b) ≤ sw a + sw b ∧ msw (a ++ b) ≤ msw a + msw b := by
  induction a with
  | nil => exact ⟨by simp [sw], by simp [msw]⟩
  | cons c a ih =>
    have h1 : sw (c :: a ++ b) ≤ sw (c :: a) + sw b := by
      rw [List.cons_append]
      by_cases hc : isSep c = true
      · rw [sw_sep _ _ hc]; omega
      · rw [Bool.not_eq_true] at hc
        rw [sw_cons _ _ hc, sw_cons _ _ hc]
        have := ih.1; omega
    refine ⟨h1, ?_⟩
    rw [List.cons_append] at h1 ⊢
    rw [msw_cons, msw_cons]
    have := ih.2
    have := sw_msw b
    omega
theorem msw_right (a b : List Nat) : msw b ≤ msw (a ++ b) := by
  induction a with
  | nil => exact Nat.le_refl _
  | cons c a ih => rw [List.cons_append, msw]; omega
theorem sw_left (a b : List Nat) : sw a ≤ sw (a ++ b) := by
  induction a with
  | nil => exact Nat.zero_le _
  | cons c a ih =>
    rw [List.cons_append]
    unfold sw
    split
    · exact Nat.le_refl _
    · omega
theorem msw_left (a b : List Nat) : msw a ≤ msw (a ++ b) := by
  induction a with
  | nil => exact Nat.zero_le _
  | cons c a ih =>
    have := sw_left (c :: a) b
    rw [List.cons_append] at this ⊢
    rw [msw, msw]
    omega
/-- a comma or a curly bracket parts the text -/
theorem msw_sep (a b : List Nat) (c : Nat) (h : isSep c = true) : sw (a ++ c :: b) = sw a ∧ msw (a ++ c :: b) = max (msw a) (msw b) := by
  induction a with
  | nil => exact ⟨sw_sep c b h, by rw [List.nil_append, msw_cons, sw_sep c b h]; simp [msw]⟩
  | cons d a ih =>
    have h1 : sw (d :: a ++ c :: b) = sw (d :: a) := by
      rw [List.cons_append]
      unfold sw
      rw [ih.1]
    refine ⟨h1, ?_⟩
    rw [List.cons_append] at h1 ⊢
    rw [msw, h1, ih.2, msw]
    omega
theorem msw_len (a : List Nat) : msw a ≤ a.length ∧ sw a ≤ a.length := by
  induction a with
  | nil => exact ⟨Nat.le_refl _, Nat.le_refl _⟩
  | cons c a ih =>
    have h1 : sw (c :: a) ≤ a.length + 1 := by
      unfold sw
      split
      · omega
      · have := ih.2; split <;> omega
    rw [msw, List.length_cons]
    omega
/-- dep: a text put ahead of two -/
theorem dep_lip (a : List Nat) {b c : List Nat} {d : Nat} (h : dep b ≤ dep c + d) : dep (a ++ b) ≤ dep (a ++ c) + d := by
  induction a with
  | nil => exact h
  | cons e a ih =>
    rw [List.cons_append, List.cons_append, dep, dep]
    split
    · omega
    · split <;> omega
theorem dep_left (a b : List Nat) : dep a ≤ dep (a ++ b) := by
  have := dep_lip a (b := []) (c := b) (d := 0) (Nat.zero_le _)
  rwa [List.append_nil] at this
theorem dep_ups (a b : List Nat) : dep b ≤ dep (a ++ b) + a.length ∧ dep (a ++ b) ≤ dep b + a.length := by
  induction a with
  | nil => exact ⟨Nat.le_refl _, Nat.le_refl _⟩
  | cons e a ih =>
    rw [List.cons_append, dep, List.length_cons]
    split
    · omega
    · split <;> omega
/-- balanced: at most m deep -/
def Bal (m : Nat) (t : List Nat) : Prop := ∀ r, dep (t ++ r) ≤ max m (dep r)
theorem Bal.app {m : Nat} {t u : List Nat} (h : Bal m t) (g : Bal m u) : Bal m (t ++ u) := fun r => by
  rw [List.append_assoc]
  have h1 := h (u ++ r)
  have h2 := g r
  omega
theorem Bal.mono {m n : Nat} {t : List Nat} (h : Bal m t) (l : m ≤ n) : Bal n t := fun r => by have := h r; omega
theorem Bal.brk {m : Nat} {t : List Nat} (h : Bal m t) : Bal (m + 1) (40 :: (t ++ [41])) := fun r => by
  rw [show 40 :: (t ++ [41]) ++ r = 40 :: (t ++ 41 :: r) by simp, dep_40]
  have h1 := h (41 :: r)
  rw [dep_41] at h1
  omega
theorem Bal.one {m c : Nat} (h : c ≠ 40) (g : c ≠ 41) : Bal m [c] := fun r => by
  show dep (c :: r) ≤ _
  rw [dep_ne _ h g]
  omega
theorem Bal.cons {m c : Nat} {t : List Nat} (h : c ≠ 40) (g : c ≠ 41) (b : Bal m t) : Bal m (c :: t) := Bal.app (t := [c]) (.one h g) b
theorem Bal.sg {m : Nat} {l : List Nat} (h : Sg l) : Bal m l := fun r => by rw [dep_sg r h]; omega
theorem Bal.brks {m : Nat} {t : List Nat} (h : Bal m t) : ∀ k, Bal (m + k) (K13.brk k t)
  | 0 => h
  | k + 1 => (Bal.brks h k).brk
theorem LT.bal {loose : Bool} {c : Nat} {p : Pat} {t : List Nat} (h : LT loose c p t) : p.sg → Bal (3 * p.depth) t := by
  have kk : ∀ {c p k}, kOk loose c p k → k ≤ 3 := fun {c p k} hk => by
    have h1 := hk.2
    have h2 := need_le c p
    split at h1 <;> omega
  induction h with
  | word hk =>
    intro hp
    exact (Bal.brks (m := 0) (.cons (by decide) (by decide) (.app (.sg hp) (.one (by decide) (by decide)))) _).mono (by have := kk hk; simp only [Pat.depth]; omega)
  | one hk =>
    intro hp
    exact (Bal.brks (m := 0) (.cons (by decide) (by decide) (.app (.sg hp) (.one (by decide) (by decide)))) _).mono (by have := kk hk; simp only [Pat.depth]; omega)
  | star hk _ ih =>
    intro hp
    exact (Bal.brks ((ih hp).app (.one (by decide) (by decide))) _).mono (by have := kk hk; simp only [Pat.depth]; omega)
  | @seq c k p q t u hk _ _ ih1 ih2 =>
    intro hp
    exact (Bal.brks (m := 3 * max p.depth q.depth) (((ih1 hp.1).mono (by omega)).app ((ih2 hp.2).mono (by omega))) _).mono (by have := kk hk; simp only [Pat.depth]; omega)
  | @alt c k p q t u hk _ _ ih1 ih2 =>
    intro hp
    exact (Bal.brks (m := 3 * max p.depth q.depth) (((ih1 hp.1).mono (by omega)).app (.cons (by decide) (by decide) ((ih2 hp.2).mono (by omega)))) _).mono (by have := kk hk; simp only [Pat.depth]; omega)
theorem msw_sg : ∀ {l : List Nat}, Sg l → msw l = 0
  | [], _ => rfl
  | c :: l, h => by
    have h1 := sw_sg (l := c :: l) [] h
    rw [List.append_nil] at h1
    rw [msw, h1, msw_sg fun x hx => h x (List.mem_cons_of_mem _ hx)]
    rfl
theorem msw_brk (k : Nat) (t : List Nat) : msw (brk k t) ≤ msw t := by
  induction k with
  | zero => exact Nat.le_refl _
  | succ k ih =>
    show msw ([40] ++ (brk k t ++ [41])) ≤ _
    have h1 := (msw_app_le [40] (brk k t ++ [41])).2
    have h2 := (msw_app_le (brk k t) [41]).2
    have h3 : msw [40] = 0 := rfl
    have h4 : msw [41] = 0 := rfl
    omega
theorem LT.msw {loose : Bool} {c : Nat} {p : Pat} {t : List Nat} (h : LT loose c p t) : p.sg → K13.msw t ≤ p.wt := by
  induction h with
  | @word c k l hk =>
    intro hp
    have h0 := msw_brk k (60 :: (l ++ [62]))
    have h1 := (msw_app_le [60] (l ++ [62])).2
    have h2 := (msw_app_le l [62]).2
    have h3 : K13.msw [60] = 1 := rfl
    have h4 : K13.msw [62] = 0 := rfl
    have h5 := msw_sg hp
    show _ ≤ 1
    rw [show [60] ++ (l ++ [62]) = 60 :: (l ++ [62]) from rfl] at h1
    omega
  | @one c k l hk =>
    intro hp
    have h0 := msw_brk k (91 :: (l ++ [93]))
    have h1 := (msw_app_le [91] (l ++ [93])).2
    have h2 := (msw_app_le l [93]).2
    have h3 : K13.msw [91] = 1 := rfl
    have h4 : K13.msw [93] = 0 := rfl
    have h5 := msw_sg hp
    show _ ≤ 1
    rw [show [91] ++ (l ++ [93]) = 91 :: (l ++ [93]) from rfl] at h1
    omega
  | @star c k p t hk _ ih =>
    intro hp
    have h0 := msw_brk k (t ++ [42])
    have h1 := (msw_app_le t [42]).2
    have h3 : K13.msw [42] = 1 := rfl
    have := ih hp
    show _ ≤ p.wt + 1
    omega
  | @seq c k p q t u hk _ _ ih1 ih2 =>
    intro hp
    have h0 := msw_brk k (t ++ u)
    have h1 := (msw_app_le t u).2
    have := ih1 hp.1
    have := ih2 hp.2
    show _ ≤ p.wt + q.wt
    omega
  | @alt c k p q t u hk _ _ ih1 ih2 =>
    intro hp
    have h0 := msw_brk k (t ++ (124 :: u))
    have h1 := (msw_app_le t (124 :: u)).2
    have h2 := (msw_app_le [124] u).2
    have h3 : K13.msw [124] = 0 := rfl
    rw [show [124] ++ u = 124 :: u from rfl] at h2
    have := ih1 hp.1
    have := ih2 hp.2
    show _ ≤ p.wt + q.wt
    omega
end
end K13
namespace K13
open PySem PySem.Spec PyProof.Rows L2
local macro_rules | `(tactic| walk_at "con") => `(tactic| first | with_reducible refine Gx.conE K13.ks0 ?_ | with_reducible refine Gx.conE K13.ks1 ?_ | with_reducible refine Gx.conE K13.ks2 ?_ | with_reducible refine Gx.conE K13.ks3 ?_ | with_reducible refine Gx.conE K13.ks4 ?_ | with_reducible refine Gx.conE K13.ks5 ?_ | with_reducible refine Gx.conE K13.ks6 ?_ | with_reducible refine Gx.conE K13.ks7 ?_ | with_reducible refine Gx.conE K13.ks8 ?_ | with_reducible refine Gx.conE K13.ks9 ?_ | with_reducible refine Gx.conE K13.ks10 ?_ | with_reducible refine Gx.conE K13.ks11 ?_ | with_reducible refine Gx.conE K13.ks12 ?_ | with_reducible refine Gx.conE K13.ks13 ?_ | with_reducible refine Gx.conE K13.ks14 ?_ | with_reducible refine Gx.conE K13.ks15 ?_ | with_reducible refine Gx.conE K13.ks16 ?_ | with_reducible refine Gx.conE K13.ks17 ?_ | with_reducible refine Gx.conE K13.ks18 ?_ | with_reducible refine Gx.conE K13.ks19 ?_ | with_reducible refine Gx.conE K13.ks20 ?_ | with_reducible refine Gx.conE K13.ks21 ?_ | with_reducible refine Gx.conE K13.ks22 ?_ | with_reducible refine Gx.conE K13.ks23 ?_ | with_reducible refine Gx.conE K13.ks24 ?_ | with_reducible refine Gx.conE K13.ks25 ?_ | with_reducible refine Gx.conE K13.ks26 ?_ | with_reducible refine Gx.conE K13.ks27 ?_ | with_reducible refine Gx.conE K13.ks28 ?_ | with_reducible refine Gx.conE K13.ks29 ?_ | with_reducible refine Gx.conE K13.ks30 ?_ | with_reducible refine Gx.conE K13.ks31 ?_ | with_reducible refine Gx.conE K13.ks32 ?_ | with_reducible refine Gx.conE K13.ks33 ?_ | with_reducible refine Gx.conE K13.ks34 ?_ | with_reducible refine Gx.conE K13.ks35 ?_ | with_reducible refine Gx.conE K13.ks36 ?_ | with_reducible refine Gx.conE K13.ks37 ?_ | with_reducible refine Gx.conE K13.ks38 ?_ | with_reducible refine Gx.conE K13.ks39 ?_ | with_reducible refine Gx.conE K13.ks40 ?_ | with_reducible refine Gx.conE K13.ks41 ?_ | with_reducible refine Gx.conE K13.ks42 ?_ | with_reducible refine Gx.conE K13.ks43 ?_ | with_reducible refine Gx.conE K13.ks44 ?_ | with_reducible refine Gx.conE K13.ks45 ?_ | with_reducible refine Gx.conE K13.ks46 ?_ | with_reducible refine Gx.conE K13.ks47 ?_ | with_reducible refine Gx.conE K13.ks48 ?_ | with_reducible refine Gx.conE K13.ks49 ?_ | with_reducible refine Gx.conE K13.ks50 ?_ | with_reducible refine Gx.conE K13.ks51 ?_ | with_reducible refine Gx.conE K13.ks52 ?_ | with_reducible refine Gx.conE K13.ks53 ?_ | with_reducible refine Gx.conE K13.ks54 ?_ | with_reducible refine Gx.conE K13.ks55 ?_ | with_reducible refine Gx.conE K13.ks56 ?_ | with_reducible refine Gx.conE K13.ks57 ?_ | with_reducible refine Gx.conE K13.ks58 ?_ | with_reducible refine Gx.conE K13.ks59 ?_ | with_reducible refine Gx.conE K13.ks60 ?_ | with_reducible refine Gx.conE K13.ks61 ?_ | with_reducible refine Gx.conE K13.ks62 ?_ | with_reducible refine Gx.conE K13.ks63 ?_)
section
variable {P : Program} {w : World} {K : PySem.W.Frag} {mg : Str → Option Value} {base : Heap}
/-! ### what is drawn, in numbers -/
/-- how large a drawn pattern is: the text, its brackets, its leaves and stars -/
def Pat.sz2 : Pat → Nat
  | .word l => l.length + 6
  | .one l => l.length + 6
  | .star p => p.sz2 + 5
  | .two _ p q => p.sz2 + q.sz2 + 7
def Pat.cb : Pat → Nat
  | .word _ => 2
  | .one _ => 2
  | .star p => p.cb + 2
  | .two _ p q => p.cb + q.cb + 3
theorem Pat.sz_le : ∀ p : Pat, p.sz ≤ p.sz2
  | .word l => by simp [Pat.sz, Pat.sz2]
  | .one l => by simp [Pat.sz, Pat.sz2]
  | .star p => by have := Pat.sz_le p; simp only [Pat.sz, Pat.sz2]; omega
  | .two _ p q => by have := Pat.sz_le p; have := Pat.sz_le q; simp only [Pat.sz, Pat.sz2]; omega
theorem LT.len {loose : Bool} {c : Nat} {p : Pat} {t : List Nat} (h : LT loose c p t) : t.length ≤ p.sz2 := by
  induction h with
  | @word c k l hk =>
    have h1 := hk.2
    simp only [need] at h1
    rw [brk_len]
    simp only [Pat.sz2, List.length_cons, List.length_append, List.length_nil]
    split at h1 <;> omega
  | @one c k l hk =>
    have h1 := hk.2
    simp only [need] at h1
    rw [brk_len]
    simp only [Pat.sz2, List.length_cons, List.length_append, List.length_nil]
    split at h1 <;> omega
  | @star c k p t hk _ ih =>
    have h1 := hk.2
    simp only [need] at h1
    rw [brk_len]
    simp only [Pat.sz2, List.length_cons, List.length_append, List.length_nil]
    split at h1 <;> omega
  | @seq c k p q t u hk _ _ ih1 ih2 =>
    have h1 := hk.2
    have h2 := need_le c (.two true p q)
    rw [brk_len]
    simp only [Pat.sz2, List.length_append]
    split at h1 <;> omega
  | @alt c k p q t u hk _ _ ih1 ih2 =>
    have h1 := hk.2
    have h2 := need_le c (.two false p q)
    rw [brk_len]
    simp only [Pat.sz2, List.length_append, List.length_cons]
    split at h1 <;> omega
theorem cnt_sg {l : List Nat} (h : Sg l) : cnt l = 0 := by
  unfold cnt
  refine List.count_eq_zero.mpr fun hm => ?_
  have := h _ hm
  revert this
  decide
theorem LT.cnt {loose : Bool} {c : Nat} {p : Pat} {t : List Nat} (h : LT loose c p t) : p.sg → K13.cnt t ≤ p.cb := by
  induction h with
  | @word c k l hk =>
    intro hp
    have h1 := hk.2
    simp only [need] at h1
    rw [cnt_brk, cnt_cons, cnt_app, cnt_sg hp, if_neg (by decide)]
    show 0 + 0 + 0 + k ≤ 2
    split at h1 <;> omega
  | @one c k l hk =>
    intro hp
    have h1 := hk.2
    simp only [need] at h1
    rw [cnt_brk, cnt_cons, cnt_app, cnt_sg hp, if_neg (by decide)]
    show 0 + 0 + 0 + k ≤ 2
    split at h1 <;> omega
  | @star c k p t hk _ ih =>
    intro hp
    have := ih hp
    have h1 := hk.2
    simp only [need] at h1
    rw [cnt_brk, cnt_app]
    show K13.cnt t + 0 + k ≤ p.cb + 2
    split at h1 <;> omega
  | @seq c k p q t u hk _ _ ih1 ih2 =>
    intro hp
    have := ih1 hp.1
    have := ih2 hp.2
    have h1 := hk.2
    have h2 := need_le c (.two true p q)
    rw [cnt_brk, cnt_app]
    show _ ≤ p.cb + q.cb + 3
    split at h1 <;> omega
  | @alt c k p q t u hk _ _ ih1 ih2 =>
    intro hp
    have := ih1 hp.1
    have := ih2 hp.2
    have h1 := hk.2
    have h2 := need_le c (.two false p q)
    rw [cnt_brk, cnt_app, cnt_cons, if_neg (by decide)]
    show _ ≤ p.cb + q.cb + 3
    split at h1 <;> omega
/-- the bounds by the depth that is drawn -/
def bS : Nat → Nat
  | 0 => 26
  | n + 1 => 2 * bS n + 7
def bC : Nat → Nat
  | 0 => 2
  | n + 1 => 2 * bC n + 3
def bW : Nat → Nat
  | 0 => 1
  | n + 1 => 2 * bW n
theorem bW_pos : ∀ n, 1 ≤ bW n
  | 0 => Nat.le_refl _
  | n + 1 => by have := bW_pos n; show 1 ≤ 2 * bW n; omega
structure Drawn (p : Pat) (n : Nat) : Prop where
  rd : p.rd
  dp : p.depth ≤ n + 1
  sz : p.sz2 ≤ bS n
  cb : p.cb ≤ bC n
  wt : p.wt ≤ bW n
theorem Drawn.leaf : ∀ {p : Pat} {n : Nat}, Drawn p 0 → Drawn p n
  | p, 0, h => h
  | p, n + 1, h => by
    have ih := Drawn.leaf (n := n) h
    have := bW_pos n
    exact ⟨ih.rd, by have := ih.dp; omega, by have := ih.sz; show _ ≤ 2 * bS n + 7; omega, by have := ih.cb; show _ ≤ 2 * bC n + 3; omega, by have := ih.wt; show _ ≤ 2 * bW n; omega⟩
theorem Drawn.star {p : Pat} {n : Nat} (h : Drawn p n) : Drawn (.star p) (n + 1) := by
  have := bW_pos n
  obtain ⟨h1, h2, h3, h4, h5⟩ := h
  exact ⟨h1, by show p.depth + 1 ≤ _; omega, by show p.sz2 + 5 ≤ 2 * bS n + 7; omega, by show p.cb + 2 ≤ 2 * bC n + 3; omega, by show p.wt + 1 ≤ 2 * bW n; omega⟩
theorem Drawn.two {b : Bool} {p q : Pat} {n : Nat} (h : Drawn p n) (g : Drawn q n) : Drawn (.two b p q) (n + 1) := by
  obtain ⟨h1, h2, h3, h4, h5⟩ := h
  obtain ⟨g1, g2, g3, g4, g5⟩ := g
  exact ⟨⟨h1, g1⟩, by show max p.depth q.depth + 1 ≤ _; omega, by show p.sz2 + q.sz2 + 7 ≤ 2 * bS n + 7; omega, by show p.cb + q.cb + 3 ≤ 2 * bC n + 3; omega, by show p.wt + q.wt ≤ 2 * bW n; omega⟩
theorem strs_can : ∀ ls : List (List Nat), (∀ l ∈ ls, Sg l) → PyData.canLayAll0 (ls.map fun l => PyData.str (Gx.mkS l)) = true
  | [], _ => rfl
  | l :: ls, h => by
    rw [List.map_cons, PyData.canLayAll0, strs_can ls fun x hx => h x (List.mem_cons_of_mem _ hx), PyData.canLay0, Sg.ok (h l List.mem_cons_self)]
    rfl
theorem strs_dep : ∀ ls : List (List Nat), PyData.depthAll (ls.map fun l => PyData.str (Gx.mkS l)) = 0
  | [] => by simp [PyData.depthAll]
  | l :: ls => by rw [List.map_cons, PyData.depthAll, strs_dep ls, PyData.depth]; rfl
theorem strs_shaped {ls : List (List Nat)} (h : ∀ l ∈ ls, Sg l) : SeqAt.shaped (.list (ls.map fun l => PyData.str (Gx.mkS l))) = true := by
  unfold SeqAt.shaped
  rw [PyData.canLay0, strs_can ls h, Bool.true_and]
  refine decide_eq_true ?_
  simp only [PyData.depth]
  rw [strs_dep]
  decide
theorem strs_dp {H : Hp} : ∀ ls : List (List Nat), DpAll K H ((ls.map Gx.mkS).map V.str) (ls.map fun l => PyData.str (Gx.mkS l))
  | [] => .nil
  | l :: ls => .cons (.str _) (strs_dp ls)
theorem strs_nil (ls : List (List Nat)) : PyData.eqv (.list (ls.map fun l => PyData.str (Gx.mkS l))) (.list []) = decide (ls = []) := by
  cases ls with
  | nil => rw [PyData.eqv]; simp [PyData.eqvAll]
  | cons l ls => rw [PyData.eqv]; simp [PyData.eqvAll]
theorem flat_one1 {α : Type} (f : α → Nat) : ∀ ks : List α, (ks.map fun k => [f k]).flatten = ks.map f
  | [] => rfl
  | k :: ks => by rw [List.map_cons, List.map_cons, List.flatten_cons, flat_one1 f ks]; rfl
def sg (k : Nat) : Nat := [58, 59, 97, 98, 99].getD k 0
theorem sg_mem {k : Nat} (h : k < 5) : sg k ∈ sgs := by
  match k, h with
  | 0, _ => decide
  | 1, _ => decide
  | 2, _ => decide
  | 3, _ => decide
  | 4, _ => decide
theorem sg_lt : ∀ {j k : Nat}, j < k → k < 5 → sg j < sg k := by
  intro j k h1 h2
  have : ∀ k : Fin 5, ∀ j : Fin 5, j.val < k.val → sg j.val < sg k.val := by decide
  exact this ⟨k, h2⟩ ⟨j, by omega⟩ h1
theorem pow5 {j : Nat} (h : j < 5) : ∃ d : Int, ([V.int 1, V.int 2, V.int 4, V.int 8, V.int 16])[j]? = some (V.int d) ∧ 1 ≤ d ∧ d ≤ 16 := by
  match j, h with
  | 0, _ => exact ⟨1, rfl, by decide, by decide⟩
  | 1, _ => exact ⟨2, rfl, by decide, by decide⟩
  | 2, _ => exact ⟨4, rfl, by decide, by decide⟩
  | 3, _ => exact ⟨8, rfl, by decide, by decide⟩
  | 4, _ => exact ⟨16, rfl, by decide, by decide⟩
theorem LT.plain {c : Nat} {p : Pat} {t : List Nat} (h : LT false c p t) : t = K13.plain c p := by
  have hk : ∀ {c k : Nat} {p : Pat}, kOk false c p k → k = need c p := fun h => by
    have h1 := h.1
    have h2 := h.2
    rw [if_neg (by decide)] at h2
    omega
  induction h with
  | word k => rw [hk k]; rfl
  | one k => rw [hk k]; rfl
  | star k _ ih => rw [hk k, ih]; rfl
  | seq k _ _ ih1 ih2 => rw [hk k, ih1, ih2]; rfl
  | alt k _ _ ih1 ih2 => rw [hk k, ih1, ih2]; rfl
end
end K13
namespace K13
open PySem PySem.Spec PyProof.Rows L2
local macro_rules | `(tactic| walk_at "con") => `(tactic| first | with_reducible refine Gx.conE K13.ks0 ?_ | with_reducible refine Gx.conE K13.ks1 ?_ | with_reducible refine Gx.conE K13.ks2 ?_ | with_reducible refine Gx.conE K13.ks3 ?_ | with_reducible refine Gx.conE K13.ks4 ?_ | with_reducible refine Gx.conE K13.ks5 ?_ | with_reducible refine Gx.conE K13.ks6 ?_ | with_reducible refine Gx.conE K13.ks7 ?_ | with_reducible refine Gx.conE K13.ks8 ?_ | with_reducible refine Gx.conE K13.ks9 ?_ | with_reducible refine Gx.conE K13.ks10 ?_ | with_reducible refine Gx.conE K13.ks11 ?_ | with_reducible refine Gx.conE K13.ks12 ?_ | with_reducible refine Gx.conE K13.ks13 ?_ | with_reducible refine Gx.conE K13.ks14 ?_ | with_reducible refine Gx.conE K13.ks15 ?_ | with_reducible refine Gx.conE K13.ks16 ?_ | with_reducible refine Gx.conE K13.ks17 ?_ | with_reducible refine Gx.conE K13.ks18 ?_ | with_reducible refine Gx.conE K13.ks19 ?_ | with_reducible refine Gx.conE K13.ks20 ?_ | with_reducible refine Gx.conE K13.ks21 ?_ | with_reducible refine Gx.conE K13.ks22 ?_ | with_reducible refine Gx.conE K13.ks23 ?_ | with_reducible refine Gx.conE K13.ks24 ?_ | with_reducible refine Gx.conE K13.ks25 ?_ | with_reducible refine Gx.conE K13.ks26 ?_ | with_reducible refine Gx.conE K13.ks27 ?_ | with_reducible refine Gx.conE K13.ks28 ?_ | with_reducible refine Gx.conE K13.ks29 ?_ | with_reducible refine Gx.conE K13.ks30 ?_ | with_reducible refine Gx.conE K13.ks31 ?_ | with_reducible refine Gx.conE K13.ks32 ?_ | with_reducible refine Gx.conE K13.ks33 ?_ | with_reducible refine Gx.conE K13.ks34 ?_ | with_reducible refine Gx.conE K13.ks35 ?_ | with_reducible refine Gx.conE K13.ks36 ?_ | with_reducible refine Gx.conE K13.ks37 ?_ | with_reducible refine Gx.conE K13.ks38 ?_ | with_reducible refine Gx.conE K13.ks39 ?_ | with_reducible refine Gx.conE K13.ks40 ?_ | with_reducible refine Gx.conE K13.ks41 ?_ | with_reducible refine Gx.conE K13.ks42 ?_ | with_reducible refine Gx.conE K13.ks43 ?_ | with_reducible refine Gx.conE K13.ks44 ?_ | with_reducible refine Gx.conE K13.ks45 ?_ | with_reducible refine Gx.conE K13.ks46 ?_ | with_reducible refine Gx.conE K13.ks47 ?_ | with_reducible refine Gx.conE K13.ks48 ?_ | with_reducible refine Gx.conE K13.ks49 ?_ | with_reducible refine Gx.conE K13.ks50 ?_ | with_reducible refine Gx.conE K13.ks51 ?_ | with_reducible refine Gx.conE K13.ks52 ?_ | with_reducible refine Gx.conE K13.ks53 ?_ | with_reducible refine Gx.conE K13.ks54 ?_ | with_reducible refine Gx.conE K13.ks55 ?_ | with_reducible refine Gx.conE K13.ks56 ?_ | with_reducible refine Gx.conE K13.ks57 ?_ | with_reducible refine Gx.conE K13.ks58 ?_ | with_reducible refine Gx.conE K13.ks59 ?_ | with_reducible refine Gx.conE K13.ks60 ?_ | with_reducible refine Gx.conE K13.ks61 ?_ | with_reducible refine Gx.conE K13.ks62 ?_ | with_reducible refine Gx.conE K13.ks63 ?_)
section
variable {P : Program} {w : World} {K : PySem.W.Frag} {mg : Str → Option Value} {base : Heap}
/-! ### texts of lenses, and that they are read back -/
inductive LLT (loose : Bool) : Ln → List Nat → Prop where
  | copy {p : Pat} {t : List Nat} : LT loose 0 p t → LLT loose (.copy p) (copyO ++ (t ++ [125]))
  | swap {p : Pat} {t to : List Nat} : LT loose 0 p t → LLT loose (.swap p to) (swapO ++ (t ++ (44 :: (to ++ [125]))))
  | hide {p : Pat} {t a b : List Nat} : LT loose 0 p t → LLT loose (.hide p a b) (hideO ++ (t ++ (44 :: (a ++ (44 :: (b ++ [125]))))))
  | again {t : Ln} {u : List Nat} : LLT loose t u → LLT loose (.again t) (againO ++ (u ++ [41]))
  | two {k : Nat} {t x : Ln} {u v : List Nat} : LLT loose t u → LLT loose x v → LLT loose (.two k t x) (twoO k ++ (u ++ (44 :: (v ++ [41]))))
def Ln.rd : Ln → Prop
  | .copy p => p.rd ∧ p.cb ≤ 17
  | .swap p to => p.rd ∧ p.cb ≤ 17 ∧ Sg to ∧ to.Nodup ∧ to.length = 5
  | .hide p a b => p.rd ∧ p.cb ≤ 17 ∧ Sg a ∧ Sg b
  | .again t => t.rd
  | .two k t u => k < 4 ∧ t.rd ∧ u.rd
def Ln.nest : Ln → Nat
  | .again t => t.nest + 1
  | .two _ t u => max t.nest u.nest + 1
  | _ => 0
theorem Ln.rd_sg : ∀ t : Ln, t.rd → t.sg
  | .copy p, h => Pat.rd_sg p h.1
  | .swap p _, h => ⟨Pat.rd_sg p h.1, h.2.2.1⟩
  | .hide p _ _, h => ⟨Pat.rd_sg p h.1, h.2.2.1, h.2.2.2⟩
  | .again t, h => Ln.rd_sg t h
  | .two _ t u, h => ⟨Ln.rd_sg t h.2.1, Ln.rd_sg u h.2.2⟩
theorem bind_E {α β : Type} (a : α) (r : List Nat) (f : α → List Nat → Rs β) : (Rs.ok a r).bind f = f a r := rfl
theorem opn_op {w : List Nat} (h : w ∈ opL) (r : List Nat) : opn (w ++ r) = .ok w r := by
  unfold opL at h
  simp only [List.mem_cons, List.not_mem_nil, or_false] at h
  rcases h with rfl | rfl | rfl | rfl | rfl | rfl | rfl | rfl <;> simp [opn, opL, opnL, shr, copyO, hideO, swapO, twoO, twoS, againO]
theorem spanD_all : ∀ (l x r : List Nat) (c : Nat), Sg l → c ∉ sgs → (x ++ l).Nodup → spanD x (l ++ c :: r) = (l, c :: r)
  | [], x, r, c, _, h, _ => by rw [List.nil_append, spanD, if_neg fun z => h z.1]
  | y :: l, x, r, c, hl, h, hn => by
    have h1 : y ∉ x := fun hy => by
      have := List.nodup_append.mp hn
      exact this.2.2 y hy y List.mem_cons_self rfl
    rw [List.cons_append, spanD, if_pos ⟨hl y List.mem_cons_self, h1⟩, spanD_all l (x ++ [y]) r c (fun z hz => hl z (List.mem_cons_of_mem _ hz)) h (by rw [List.append_assoc]; exact hn)]
theorem ren_all {to r : List Nat} {c : Nat} (h : Sg to) (hn : to.Nodup) (hl : to.length = 5) (hc : c ∉ sgs) : ren (to ++ c :: r) = .ok to (c :: r) := by
  unfold ren
  rw [spanD_all to [] r c h hc (by simpa using hn)]
  dsimp only
  rw [if_neg (by omega)]
theorem fin_same {α : Type} (c : Nat) (a : α) (r : List Nat) : fin c a (c :: r) = .ok a r := by
  show (if c = c then Rs.ok a r else Rs.bad (c :: r)) = _
  rw [if_pos rfl]
theorem pat_inn {loose : Bool} {p : Pat} {t : List Nat} (h : LT loose 0 p t) (hp : p.rd) (hc : p.cb ≤ 17) {m : Nat} (hm : 17 ≤ m) {r : List Nat} (hr : Ended r) : inn (m + 1) (t ++ r) = .ok p r :=
  (h.read hp m (Nat.le_trans (h.cnt (Pat.rd_sg p hp)) (by omega))).1.patT hr
theorem two_mem {k : Nat} (h : k < 4) : twoO k ∈ opL := by
  unfold opL
  match k, h with
  | 0, _ => decide
  | 1, _ => decide
  | 2, _ => decide
  | 3, _ => decide
theorem body_two {I : List Nat → Rs Pat} {L : List Nat → Rs Ln} {k : Nat} (h : k < 4) (r : List Nat) : bodyR I L (twoO k) r = twoR k L r := by
  match k, h with
  | 0, _ => rfl
  | 1, _ => rfl
  | 2, _ => rfl
  | 3, _ => rfl
theorem LLT.read {loose : Bool} {t : Ln} {u : List Nat} (h : LLT loose t u) : t.rd → ∀ (n : Nat) (r : List Nat), t.nest + 18 ≤ n → rdLn n (u ++ r) = .ok t r := by
  have e44 : ∀ r, Ended (44 :: r) := fun r c u e => by injection e with e _; subst e; decide
  have e125 : ∀ r, Ended (125 :: r) := fun r c u e => by injection e with e _; subst e; decide
  induction h with
  | @copy p t h =>
    intro hp n r hn
    obtain ⟨n, rfl⟩ : ∃ m, n = m + 1 := ⟨n - 1, by omega⟩
    have hn : 0 + 18 ≤ n + 1 := hn
    show (opn (copyO ++ (t ++ [125]) ++ r)).bind (bodyR (inn (n + 1)) (rdLn n)) = _
    rw [List.append_assoc, opn_op (by decide), List.append_assoc]
    show (inn (n + 1) (t ++ (125 :: r))).bind (fun p t => fin 125 (Ln.copy p) t) = _
    rw [pat_inn h hp.1 hp.2 (m := n) (by omega) (e125 r), bind_E]
    exact fin_same 125 _ r
  | @swap p t to h =>
    intro hp n r hn
    obtain ⟨n, rfl⟩ : ∃ m, n = m + 1 := ⟨n - 1, by omega⟩
    have hn : 0 + 18 ≤ n + 1 := hn
    show (opn (swapO ++ (t ++ (44 :: (to ++ [125]))) ++ r)).bind (bodyR (inn (n + 1)) (rdLn n)) = _
    rw [List.append_assoc, opn_op (by decide), List.append_assoc, show 44 :: (to ++ [125]) ++ r = 44 :: (to ++ 125 :: r) by simp]
    show (inn (n + 1) (t ++ (44 :: (to ++ 125 :: r)))).bind (fun p t => (fin 44 () t).bind fun _ u => (ren u).bind fun to v => fin 125 (Ln.swap p to) v) = _
    rw [pat_inn h hp.1 hp.2.1 (m := n) (by omega) (e44 _), bind_E, fin_same, bind_E, ren_all hp.2.2.1 hp.2.2.2.1 hp.2.2.2.2 (by decide), bind_E]
    exact fin_same 125 _ r
  | @hide p t a b h =>
    intro hp n r hn
    obtain ⟨n, rfl⟩ : ∃ m, n = m + 1 := ⟨n - 1, by omega⟩
    have hn : 0 + 18 ≤ n + 1 := hn
    show (opn (hideO ++ (t ++ (44 :: (a ++ (44 :: (b ++ [125]))))) ++ r)).bind (bodyR (inn (n + 1)) (rdLn n)) = _
    rw [List.append_assoc, opn_op (by decide), List.append_assoc, show 44 :: (a ++ (44 :: (b ++ [125]))) ++ r = 44 :: (a ++ 44 :: (b ++ 125 :: r)) by simp]
    show (inn (n + 1) (t ++ (44 :: (a ++ 44 :: (b ++ 125 :: r))))).bind (fun p t => (fin 44 () t).bind fun _ u => (fin 44 () (spanS u).2).bind fun _ v => fin 125 (Ln.hide p (spanS u).1 (spanS v).1) (spanS v).2) = _
    rw [pat_inn h hp.1 hp.2.1 (m := n) (by omega) (e44 _), bind_E, fin_same, bind_E, spanS_all a _ 44 hp.2.2.1 (by decide)]
    dsimp only
    rw [fin_same, bind_E, spanS_all b _ 125 hp.2.2.2 (by decide)]
    exact fin_same 125 _ r
  | @again t u h ih =>
    intro hp n r hn
    obtain ⟨n, rfl⟩ : ∃ m, n = m + 1 := ⟨n - 1, by omega⟩
    have hn : t.nest + 1 + 18 ≤ n + 1 := hn
    show (opn (againO ++ (u ++ [41]) ++ r)).bind (bodyR (inn (n + 1)) (rdLn n)) = _
    rw [List.append_assoc, opn_op (by decide), List.append_assoc]
    show (rdLn n (u ++ ([41] ++ r))).bind (fun t u => fin 41 (Ln.again t) u) = _
    rw [ih hp n _ (by omega), bind_E]
    exact fin_same 41 _ r
  | @two k t x u v h g ih1 ih2 =>
    intro hp n r hn
    obtain ⟨n, rfl⟩ : ∃ m, n = m + 1 := ⟨n - 1, by omega⟩
    have hn : max t.nest x.nest + 1 + 18 ≤ n + 1 := hn
    show (opn (twoO k ++ (u ++ (44 :: (v ++ [41]))) ++ r)).bind (bodyR (inn (n + 1)) (rdLn n)) = _
    rw [List.append_assoc, opn_op (two_mem hp.1), List.append_assoc, show 44 :: (v ++ [41]) ++ r = 44 :: (v ++ 41 :: r) by simp]
    show bodyR _ _ (twoO k) _ = _
    rw [body_two hp.1]
    show (rdLn n (u ++ (44 :: (v ++ 41 :: r)))).bind (fun t u => (fin 44 () u).bind fun _ v => (rdLn n v).bind fun x y => fin 41 (Ln.two k t x) y) = _
    rw [ih1 hp.2.1 n _ (by omega), bind_E, fin_same, bind_E, ih2 hp.2.2 n _ (by omega), bind_E]
    exact fin_same 41 _ r
theorem LLT.readL {loose : Bool} {t : Ln} {u : List Nat} (h : LLT loose t u) (hp : t.rd) {n : Nat} (hn : t.nest + 18 ≤ n) : K13.readL n u = .ok t [] := by
  have h1 := h.read hp n [] hn
  rw [List.append_nil] at h1
  unfold K13.readL
  rw [h1]
/-- what is read has signs only and is not too deep -/
theorem rdLn_good : ∀ (n : Nat) (s : List Nat) (t : Ln) (r : List Nat), rdLn n s = .ok t r → t.sg ∧ t.depth ≤ n + msw s
  | 0, s, t, r, h => by cases h
  | n + 1, s, t, r, h0 => by
    obtain ⟨w, u, h1, h⟩ := bind_ok (show (opn s).bind (bodyR (inn (n + 1)) (rdLn n)) = .ok t r from h0)
    clear h0
    obtain ⟨hw, rfl⟩ := opnL_ok _ _ _ _ _ h1
    have hm := msw_right w u
    have leaf : ∀ {p : Pat} {a : List Nat}, inn (n + 1) u = .ok p a → p.sg ∧ p.depth + 1 ≤ n + 1 + msw (w ++ u) := fun {p a} e => by
      obtain ⟨g1, g2⟩ := inn_good (n + 1) u p a e
      have := Pat.depth_wt p
      have := sw_msw u
      exact ⟨g1, by omega⟩
    have h2 : ∀ k, twoR k (rdLn n) u = .ok t r → t.sg ∧ t.depth ≤ n + 1 + msw (w ++ u) := fun k h => by
      obtain ⟨x, a, k1, h⟩ := bind_ok h
      obtain ⟨_, b, k2, h⟩ := bind_ok h
      obtain ⟨y, c, k3, h⟩ := bind_ok h
      obtain ⟨rfl, _⟩ := fin_ok h
      obtain ⟨_, rfl⟩ := fin_ok k2
      obtain ⟨a1, a2⟩ := rdLn_good n u x _ k1
      obtain ⟨b1, b2⟩ := rdLn_good n b y _ k3
      have hs := rdLn_suf n u
      rw [k1] at hs
      obtain ⟨z, hz⟩ := (show Suf (44 :: b) u from hs)
      have m1 : msw b ≤ msw u := by
        rw [hz, show z ++ 44 :: b = (z ++ [44]) ++ b by simp]
        exact msw_right _ _
      exact ⟨⟨a1, b1⟩, by show max x.depth y.depth + 1 ≤ _; omega⟩
    unfold bodyR at h
    repeat' split at h
    · obtain ⟨p, a, k1, h⟩ := bind_ok (show (inn (n + 1) u).bind (fun p t => fin 125 (.copy p) t) = .ok t r from h)
      obtain ⟨rfl, _⟩ := fin_ok h
      exact leaf k1
    · obtain ⟨p, a, k1, h⟩ := bind_ok (show (inn (n + 1) u).bind (fun p t => (fin 44 () t).bind fun _ u => (fin 44 () (spanS u).2).bind fun _ v => fin 125 (.hide p (spanS u).1 (spanS v).1) (spanS v).2) = .ok t r from h)
      obtain ⟨_, b, k2, h⟩ := bind_ok h
      obtain ⟨_, c, k3, h⟩ := bind_ok h
      obtain ⟨rfl, _⟩ := fin_ok h
      obtain ⟨g1, g2⟩ := leaf k1
      exact ⟨⟨g1, spanS_sg b, spanS_sg c⟩, g2⟩
    · obtain ⟨p, a, k1, h⟩ := bind_ok (show (inn (n + 1) u).bind (fun p t => (fin 44 () t).bind fun _ u => (ren u).bind fun to v => fin 125 (.swap p to) v) = .ok t r from h)
      obtain ⟨_, b, k2, h⟩ := bind_ok h
      obtain ⟨to, c, k3, h⟩ := bind_ok h
      obtain ⟨rfl, _⟩ := fin_ok h
      obtain ⟨g1, g2⟩ := leaf k1
      obtain ⟨rfl, _⟩ := ren_ok k3
      exact ⟨⟨g1, spanD_sg b []⟩, g2⟩
    · exact h2 _ h
    · exact h2 _ h
    · exact h2 _ h
    · exact h2 _ h
    · obtain ⟨x, a, k1, h⟩ := bind_ok (show (rdLn n u).bind (fun t u => fin 41 (.again t) u) = .ok t r from h)
      obtain ⟨rfl, _⟩ := fin_ok h
      obtain ⟨a1, a2⟩ := rdLn_good n u x _ k1
      exact ⟨a1, by show x.depth + 1 ≤ _; omega⟩
theorem readL_ok {n : Nat} {l : List Nat} {t : Ln} {r : List Nat} (h : readL n l = .ok t r) : rdLn n l = .ok t [] ∧ r = [] := by
  unfold readL at h
  split at h
  · rename_i e; cases h; exact ⟨e, rfl⟩
  · cases h
  · cases h
/-- the text as it is written -/
def plainL : Ln → List Nat
  | .copy p => copyO ++ (plain 0 p ++ [125])
  | .swap p to => swapO ++ (plain 0 p ++ (44 :: (to ++ [125])))
  | .hide p a b => hideO ++ (plain 0 p ++ (44 :: (a ++ (44 :: (b ++ [125])))))
  | .again t => againO ++ (plainL t ++ [41])
  | .two k t u => twoO k ++ (plainL t ++ (44 :: (plainL u ++ [41])))
def Ln.sz : Ln → Nat
  | .copy p => p.sz2 + 8
  | .swap p to => p.sz2 + to.length + 8
  | .hide p a b => p.sz2 + a.length + b.length + 8
  | .again t => t.sz + 8
  | .two _ t u => t.sz + u.sz + 8
theorem twoS_len (k : Nat) : (twoS k).length ≤ 5 := by
  unfold twoS
  split <;> decide
theorem twoO_len (k : Nat) : (twoO k).length ≤ 6 := by
  have := twoS_len k
  unfold twoO
  rw [List.length_append]
  show _ + 1 ≤ 6
  omega
theorem LLT.len {loose : Bool} {t : Ln} {u : List Nat} (h : LLT loose t u) : u.length ≤ t.sz := by
  have c1 : copyO.length = 5 := rfl
  have c2 : swapO.length = 5 := rfl
  have c3 : hideO.length = 5 := rfl
  have c4 : againO.length = 6 := rfl
  induction h with
  | copy h => have := h.len; simp only [Ln.sz, List.length_append, List.length_cons, List.length_nil]; omega
  | swap h => have := h.len; simp only [Ln.sz, List.length_append, List.length_cons, List.length_nil]; omega
  | hide h => have := h.len; simp only [Ln.sz, List.length_append, List.length_cons, List.length_nil]; omega
  | again _ ih => simp only [Ln.sz, List.length_append, List.length_cons, List.length_nil]; omega
  | @two k _ _ _ _ _ _ ih1 ih2 => have := twoO_len k; simp only [Ln.sz, List.length_append, List.length_cons, List.length_nil]; omega
theorem plain_sz : ∀ (p : Pat) (c : Nat), (plain c p).length ≤ p.sz2 := fun p c => Nat.le_trans (plain_len p c) (Pat.sz_le p)
theorem plainL_len : ∀ t : Ln, (plainL t).length ≤ t.sz
  | .copy p => by have := plain_sz p 0; have c1 : copyO.length = 5 := rfl; simp only [plainL, Ln.sz, List.length_append, List.length_cons, List.length_nil]; omega
  | .swap p to => by have := plain_sz p 0; have c1 : swapO.length = 5 := rfl; simp only [plainL, Ln.sz, List.length_append, List.length_cons, List.length_nil]; omega
  | .hide p a b => by have := plain_sz p 0; have c1 : hideO.length = 5 := rfl; simp only [plainL, Ln.sz, List.length_append, List.length_cons, List.length_nil]; omega
  | .again t => by have := plainL_len t; have c1 : againO.length = 6 := rfl; simp only [plainL, Ln.sz, List.length_append, List.length_cons, List.length_nil]; omega
  | .two k t u => by have := plainL_len t; have := plainL_len u; have := twoO_len k; simp only [plainL, Ln.sz, List.length_append, List.length_cons, List.length_nil]; omega
end
end K13
namespace K13
open PySem PySem.Spec PyProof.Rows L2
local macro_rules | `(tactic| walk_at "con") => `(tactic| first | with_reducible refine Gx.conE K13.ks0 ?_ | with_reducible refine Gx.conE K13.ks1 ?_ | with_reducible refine Gx.conE K13.ks2 ?_ | with_reducible refine Gx.conE K13.ks3 ?_ | with_reducible refine Gx.conE K13.ks4 ?_ | with_reducible refine Gx.conE K13.ks5 ?_ | with_reducible refine Gx.conE K13.ks6 ?_ | with_reducible refine Gx.conE K13.ks7 ?_ | with_reducible refine Gx.conE K13.ks8 ?_ | with_reducible refine Gx.conE K13.ks9 ?_ | with_reducible refine Gx.conE K13.ks10 ?_ | with_reducible refine Gx.conE K13.ks11 ?_ | with_reducible refine Gx.conE K13.ks12 ?_ | with_reducible refine Gx.conE K13.ks13 ?_ | with_reducible refine Gx.conE K13.ks14 ?_ | with_reducible refine Gx.conE K13.ks15 ?_ | with_reducible refine Gx.conE K13.ks16 ?_ | with_reducible refine Gx.conE K13.ks17 ?_ | with_reducible refine Gx.conE K13.ks18 ?_ | with_reducible refine Gx.conE K13.ks19 ?_ | with_reducible refine Gx.conE K13.ks20 ?_ | with_reducible refine Gx.conE K13.ks21 ?_ | with_reducible refine Gx.conE K13.ks22 ?_ | with_reducible refine Gx.conE K13.ks23 ?_ | with_reducible refine Gx.conE K13.ks24 ?_ | with_reducible refine Gx.conE K13.ks25 ?_ | with_reducible refine Gx.conE K13.ks26 ?_ | with_reducible refine Gx.conE K13.ks27 ?_ | with_reducible refine Gx.conE K13.ks28 ?_ | with_reducible refine Gx.conE K13.ks29 ?_ | with_reducible refine Gx.conE K13.ks30 ?_ | with_reducible refine Gx.conE K13.ks31 ?_ | with_reducible refine Gx.conE K13.ks32 ?_ | with_reducible refine Gx.conE K13.ks33 ?_ | with_reducible refine Gx.conE K13.ks34 ?_ | with_reducible refine Gx.conE K13.ks35 ?_ | with_reducible refine Gx.conE K13.ks36 ?_ | with_reducible refine Gx.conE K13.ks37 ?_ | with_reducible refine Gx.conE K13.ks38 ?_ | with_reducible refine Gx.conE K13.ks39 ?_ | with_reducible refine Gx.conE K13.ks40 ?_ | with_reducible refine Gx.conE K13.ks41 ?_ | with_reducible refine Gx.conE K13.ks42 ?_ | with_reducible refine Gx.conE K13.ks43 ?_ | with_reducible refine Gx.conE K13.ks44 ?_ | with_reducible refine Gx.conE K13.ks45 ?_ | with_reducible refine Gx.conE K13.ks46 ?_ | with_reducible refine Gx.conE K13.ks47 ?_ | with_reducible refine Gx.conE K13.ks48 ?_ | with_reducible refine Gx.conE K13.ks49 ?_ | with_reducible refine Gx.conE K13.ks50 ?_ | with_reducible refine Gx.conE K13.ks51 ?_ | with_reducible refine Gx.conE K13.ks52 ?_ | with_reducible refine Gx.conE K13.ks53 ?_ | with_reducible refine Gx.conE K13.ks54 ?_ | with_reducible refine Gx.conE K13.ks55 ?_ | with_reducible refine Gx.conE K13.ks56 ?_ | with_reducible refine Gx.conE K13.ks57 ?_ | with_reducible refine Gx.conE K13.ks58 ?_ | with_reducible refine Gx.conE K13.ks59 ?_ | with_reducible refine Gx.conE K13.ks60 ?_ | with_reducible refine Gx.conE K13.ks61 ?_ | with_reducible refine Gx.conE K13.ks62 ?_ | with_reducible refine Gx.conE K13.ks63 ?_)
section
variable {P : Program} {w : World} {K : PySem.W.Frag} {mg : Str → Option Value} {base : Heap}
/-! ### a lens tree seen as a leaf or as a node -/
def Ln.tag : Ln → List Nat
  | .copy _ => copyS
  | .swap _ _ => swapS
  | .hide _ _ _ => hideS
  | .again _ => againS
  | .two k _ _ => twoS k
def Ln.leaf : Ln → Option (Pat × List (List Nat))
  | .copy p => some (p, [])
  | .swap p to => some (p, [to])
  | .hide p a b => some (p, [a, b])
  | _ => none
def Ln.kids : Ln → List Ln
  | .again t => [t]
  | .two _ t u => [t, u]
  | _ => []
/-- the depth of its patterns -/
def Ln.pd : Ln → Nat
  | .copy p => p.depth
  | .swap p _ => p.depth
  | .hide p _ _ => p.depth
  | .again t => t.pd
  | .two _ t u => max t.pd u.pd
def leafL : List (List Nat) := [copyS, hideS, swapS]
theorem twoS_leaf (k : Nat) : twoS k ∉ leafL := by
  unfold twoS
  split <;> decide
theorem leaf_tag (t : Ln) : t.tag ∈ leafL ↔ t.leaf ≠ none := by
  cases t with
  | copy p => exact ⟨fun _ => by simp [Ln.leaf], fun _ => (by decide : copyS ∈ leafL)⟩
  | swap p to => exact ⟨fun _ => by simp [Ln.leaf], fun _ => (by decide : swapS ∈ leafL)⟩
  | hide p a b => exact ⟨fun _ => by simp [Ln.leaf], fun _ => (by decide : hideS ∈ leafL)⟩
  | again t => exact ⟨fun h => absurd h (by decide : againS ∉ leafL), fun h => absurd rfl h⟩
  | two k t u => exact ⟨fun h => absurd h (twoS_leaf k), fun h => absurd rfl h⟩
theorem tag_len (t : Ln) : t.tag.length ≤ 5 := by
  cases t with
  | two k t u => exact twoS_len k
  | copy p => show 4 ≤ 5; decide
  | swap p to => show 4 ≤ 5; decide
  | hide p a b => show 4 ≤ 5; decide
  | again t => show 5 ≤ 5; decide
theorem plainL_leaf {t : Ln} {p : Pat} {ws : List (List Nat)} (h : t.leaf = some (p, ws)) : plainL t = t.tag ++ (123 :: (TL.joinL [44] (plain 0 p :: ws) ++ [125])) := by
  cases t with
  | copy p => cases h; rfl
  | swap p to => cases h; simp [plainL, Ln.tag, swapO, swapS, TL.joinL]
  | hide p a b => cases h; simp [plainL, Ln.tag, hideO, hideS, TL.joinL]
  | again t => cases h
  | two k t u => cases h
theorem plainL_node {t : Ln} (h : t.leaf = none) : plainL t = t.tag ++ (40 :: (TL.joinL [44] (t.kids.map plainL) ++ [41])) := by
  cases t with
  | copy p => cases h
  | swap p to => cases h
  | hide p a b => cases h
  | again t => rfl
  | two k t u => simp [plainL, Ln.tag, Ln.kids, twoO, TL.joinL]
theorem LLT.leafL {loose : Bool} {t : Ln} {p : Pat} {u : List Nat} {ws : List (List Nat)} (h : t.leaf = some (p, ws)) (g : LT loose 0 p u) : LLT loose t (t.tag ++ (123 :: (TL.joinL [44] (u :: ws) ++ [125]))) := by
  cases t with
  | copy p => cases h; exact .copy g
  | swap p to => cases h; have := LLT.swap (to := to) g; simpa [Ln.tag, swapO, swapS, TL.joinL] using this
  | hide p a b => cases h; have := LLT.hide (a := a) (b := b) g; simpa [Ln.tag, hideO, hideS, TL.joinL] using this
  | again t => cases h
  | two k t u => cases h
inductive All2 {α β : Type} (R : α → β → Prop) : List α → List β → Prop where
  | nil : All2 R [] []
  | cons {a : α} {b : β} {as : List α} {bs : List β} : R a b → All2 R as bs → All2 R (a :: as) (b :: bs)
theorem LLT.node {loose : Bool} {t : Ln} {us : List (List Nat)} (h : t.leaf = none) (g : All2 (LLT loose) t.kids us) : LLT loose t (t.tag ++ (40 :: (TL.joinL [44] us ++ [41]))) := by
  cases t with
  | copy p => cases h
  | swap p to => cases h
  | hide p a b => cases h
  | again t =>
    cases g with
    | cons g1 g =>
      cases g
      exact .again g1
  | two k t u =>
    cases g with
    | cons g1 g =>
      cases g with
      | cons g2 g =>
        cases g
        have := LLT.two (k := k) g1 g2
        simpa [Ln.tag, twoO, TL.joinL] using this
theorem strs_inv {H : Hp} : ∀ {xs : List V} {ws : List (List Nat)}, DpAll K H xs (ws.map fun l => PyData.str (Gx.mkS l)) → xs = (ws.map Gx.mkS).map V.str
  | _, [], h => by cases h; rfl
  | _, w :: ws, h => by
    cases h with
    | cons h1 h2 => cases h1; rw [strs_inv h2]; rfl
theorem lnD_leaf {t : Ln} {p : Pat} {ws : List (List Nat)} (h : t.leaf = some (p, ws)) : lnD t = .tuple (.str (Gx.mkS t.tag) :: patD p :: ws.map fun l => PyData.str (Gx.mkS l)) := by
  cases t <;> cases h <;> rfl
theorem lnD_node {t : Ln} (h : t.leaf = none) : lnD t = .tuple (.str (Gx.mkS t.tag) :: t.kids.map lnD) := by
  cases t <;> first | rfl | cases h
theorem ln_leaf {H : Hp} {x : V} {t : Ln} {p : Pat} {ws : List (List Nat)} (h : Dp K H x (lnD t)) (e : t.leaf = some (p, ws)) : ∃ a y, x = .ref a ∧ SqT K H a (.str (Gx.mkS t.tag) :: y :: (ws.map Gx.mkS).map V.str) ∧ Dp K H y (patD p) := by
  rw [lnD_leaf e] at h
  cases h with
  | @tup a xs _ hs ha =>
    cases ha with
    | cons h1 ha =>
      cases ha with
      | cons h2 ha =>
        cases h1
        rw [strs_inv ha] at hs
        exact ⟨a, _, rfl, hs, h2⟩
theorem ln_node {H : Hp} {x : V} {t : Ln} (h : Dp K H x (lnD t)) (e : t.leaf = none) : ∃ a ys, x = .ref a ∧ SqT K H a (.str (Gx.mkS t.tag) :: ys) ∧ DpAll K H ys (t.kids.map lnD) := by
  rw [lnD_node e] at h
  cases h with
  | @tup a xs _ hs ha =>
    cases ha with
    | cons h1 ha =>
      cases h1
      exact ⟨a, _, rfl, hs, ha⟩
theorem leaves_eq : (["copy", "hide", "swap"] : List Str) = leafL.map Gx.mkS := by decide +kernel
theorem inLeaf (T : Txt K mg w) {H : Hp} {Q : VK} {a : List Nat} (q : Q (.bl (decide (a ∈ leafL))) H) : rIn K false (.str (Gx.mkS a)) (.ref T.a_LEAVES) H Q := by
  have h := T.kt_LEAVES H
  rw [leaves_eq] at h
  exact inStr h q
theorem joinL_len (a : List Nat) : ∀ ls : List (List Nat), (TL.joinL a ls).length ≤ ls.flatten.length + ls.length * a.length
  | [] => by simp [TL.joinL]
  | [p] => by simp [TL.joinL]
  | p :: q :: r => by
    have := joinL_len a (q :: r)
    show (p ++ (a ++ TL.joinL a (q :: r))).length ≤ _
    rw [List.length_append, List.length_append, List.flatten_cons, List.length_append, List.length_cons (as := q :: r), Nat.succ_mul]
    omega
/-- ','.join(xs) -/
theorem joinC {H : Hp} {Q : VK} {ls : List (List Nat)} {p : Addr} {a : List Nat} (e : SqL K H p ((ls.map Gx.mkS).map V.str)) (c : ls.flatten.length + ls.length * a.length ≤ 16777216) (h : Q (.str (Gx.mkS (TL.joinL a ls))) H) : Gx.rJoin K (.str (Gx.mkS a)) [.ref p] H Q := by
  refine ⟨Gx.mkS a, p, ls.map Gx.mkS, rfl, rfl, .inl e, ?_, ?_⟩
  · rw [Gx.sum_len, Gx.mkS_len, List.length_map]
    exact c
  · rw [show Txt.join (Gx.mkS a) (ls.map Gx.mkS) = Gx.mkS (TL.joinL a ls) from ?_]
    · exact h
    · refine TL.ext_tl ?_
      rw [TL.join_eq, TL.tl_join, List.map_map]
      show TL.joinL a (ls.map (fun l => l)) = TL.joinL a ls
      rw [List.map_id']
theorem joinL_ge (a : List Nat) : ∀ ls : List (List Nat), ls.flatten.length ≤ (TL.joinL a ls).length
  | [] => by simp
  | [p] => by simp [TL.joinL]
  | p :: q :: r => by
    have := joinL_ge a (q :: r)
    show _ ≤ (p ++ (a ++ TL.joinL a (q :: r))).length
    rw [List.length_append, List.length_append, List.flatten_cons, List.length_append]
    omega
theorem cutV_lo (xs : List V) (k : Nat) (h : k ≤ xs.length) : cutV xs (some (k : Int)) none = xs.drop k := by
  unfold cutV
  rw [HT.sIx_nat, HT.sIx_none, Nat.min_eq_left h]
  exact List.take_of_length_le (by rw [List.length_drop]; omega)
theorem cut1 (x : V) (ys : List V) : cutV (x :: ys) (some 1) none = ys := cutV_lo (x :: ys) 1 (by simp)
theorem cut2 (x y : V) (ys : List V) : cutV (x :: y :: ys) (some 2) none = ys := cutV_lo (x :: y :: ys) 2 (by simp)
theorem leaf_ws {t : Ln} {p : Pat} {ws : List (List Nat)} (h : t.leaf = some (p, ws)) : ws.length ≤ 2 ∧ t.pd = p.depth ∧ p.sz ≤ t.sz := by
  have := Pat.sz_le p
  cases t with
  | copy p => cases h; exact ⟨by simp, rfl, by simp only [Ln.sz]; omega⟩
  | swap p to => cases h; exact ⟨by simp, rfl, by simp only [Ln.sz]; omega⟩
  | hide p a b => cases h; exact ⟨by simp, rfl, by simp only [Ln.sz]; omega⟩
  | again t => cases h
  | two k t u => cases h
theorem node_kids {t : Ln} (h : t.leaf = none) : t.kids.length ≤ 2 ∧ ∀ x ∈ t.kids, x.nest < t.nest ∧ x.pd ≤ t.pd ∧ x.sz ≤ t.sz := by
  cases t with
  | copy p => cases h
  | swap p to => cases h
  | hide p a b => cases h
  | again t => exact ⟨(by decide : 1 ≤ 2), fun x hx => by cases List.mem_singleton.mp hx; exact ⟨Nat.lt_succ_self _, Nat.le_refl _, Nat.le_add_right _ _⟩⟩
  | two k t u => exact ⟨(by decide : 2 ≤ 2), fun x hx => by
      simp only [Ln.kids, List.mem_cons, List.not_mem_nil, or_false] at hx
      rcases hx with rfl | rfl <;> (simp only [Ln.nest, Ln.pd, Ln.sz]; omega)⟩
theorem dpAll_get {H : Hp} : ∀ {vs : List V} {ts : List Ln} {i : Nat} {v : V}, DpAll K H vs (ts.map lnD) → vs[i]? = some v → ∃ t, ts[i]? = some t ∧ Dp K H v (lnD t)
  | _, [], i, v, h, e => by cases h; simp at e
  | _, t :: ts, 0, v, h, e => by
    cases h with
    | cons h1 h2 => cases e; exact ⟨t, rfl, h1⟩
  | _, t :: ts, i + 1, v, h, e => by
    cases h with
    | cons h1 h2 =>
      obtain ⟨t', h3, h4⟩ := dpAll_get h2 (show _ = some v from e)
      exact ⟨t', h3, h4⟩
def sp_children (K : PySem.W.Frag) : Sp := fun vs H Q _ => ∃ (a : Addr) (t : List Nat) (ys : List V), vs = [.ref a] ∧ SqT K H a (.str (Gx.mkS t) :: ys) ∧ t ∉ leafL ∧ ∀ H' p, Same H H' → SqT K H' p ys → Q (.ref p) H'
theorem G_children (T : Txt K mg w) : FnOk P w K mg base CX0 1 T.f_children T.fd_children ["tree"] (sp_children K) := by
  refine T.F_children.ok sc_children (fun vs H Q E h => ?_) (fun cdv A outer s H vs Q E hr h => ?_)
  · obtain ⟨a, t, ys, rfl, _⟩ := h
    rfl
  · obtain ⟨a, t, ys, rfl, ha, ht, q⟩ := h
    refine ⟨_, ((pss_cons (ps_if (pt_cmpR op_in_seq (pe_ix ix_tup (pv 0) pe_int (fun _ _ => rfl)) (pe_glob (v := .ref T.a_LEAVES) rfl T.g_LEAVES rfl) rfl)
  (pss_one (ps_ret (pe_tup pa_nil)))
  pss_nil)
  (pss_one (ps_ret (pe_slice sl_tupA (pv 0) (po_some pe_int) po_none))))), ?_⟩
    rw [st_children]
    try dsimp only [cxOf]
    walk_at "g"
    refine Gx.ixT ha (Gx.atI_of (k := 0) rfl rfl) ?_
    walk_at "g"
    refine inLeaf T ?_
    walk_at "g"
    refine Gx.iteD (fun hm => absurd hm ht) (fun _ => ?_)
    walk_at "g"
    refine Gx.slA ha (fun p H' s' h' => ?_)
    rw [cut1] at h'
    exact q H' p s' h'
def spWl (K : PySem.W.Frag) (n m : Nat) : Sp := fun vs H Q _ => ∃ (x : V) (t : Ln), vs = [x] ∧ Dp K H x (lnD t) ∧ t.nest < n ∧ t.pd ≤ m ∧ t.sz ≤ 100000 ∧ ∀ H', Same H H' → Q (.str (Gx.mkS (plainL t))) H'
set_option maxHeartbeats 4000000 in
theorem G_write_lens (T : Txt K mg w) (m : Nat) : ∀ n, FnOk P w K mg base CX0 (n + (2 * m + 2) + 1) T.f_write_lens T.fd_write_lens ["tree"] (spWl K n m)
  | 0 => ⟨fun _ _ _ _ h => by obtain ⟨x, t, rfl, _⟩ := h; rfl, fun A outer s H args us vs Q E hr h0 hb r h => by
      obtain ⟨x, t, rfl, _, hd, _⟩ := h
      omega⟩
  | n + 1 => by
    have G_write_lens := G_write_lens T m n
    have G_write_pattern := G_write_pattern (P := P) (w := w) (base := base) T m
    have G_children := G_children (P := P) (w := w) (base := base) T
    refine T.F_write_lens.ok sc_write_lens (fun vs H Q E h => ?_) (fun cdv A outer s H vs Q E hr h => ?_)
    · obtain ⟨x, t, rfl, _⟩ := h
      rfl
    · obtain ⟨x, t, rfl, ht, hn, hd, hs, q⟩ := h
      refine ⟨_, ((pss_cons (ps_if (pt_cmpR op_in_seq (pe_ix ix_tup (pv 0) pe_int (fun _ _ => rfl)) (pe_glob (v := .ref T.a_LEAVES) rfl T.g_LEAVES rfl) rfl)
  (pss_one (ps_ret (pe_op Gx.op_addS (pe_op Gx.op_addS (pe_op Gx.op_addS (pe_ix ix_tup (pv 0) pe_int (fun _ _ => rfl)) pe_str) (Gx.pe_joinG pe_str (pe_op op_cat (pe_lst (pa_cons (pe_call G_write_pattern (hr.mono (by first | decide | omega)) (by rfl) T.g_write_pattern T.F_write_pattern.kp T.b_write_pattern .nil pass0 (pa_cons (pe_ix ix_tup (pv 0) pe_int (fun _ _ => rfl)) pa_nil)) pa_nil)) (pe_callTy call_list_of (by rfl) T.z_list bt_list (pa_cons (pe_slice sl_tupA (pv 0) (po_some pe_int) po_none) pa_nil))))) pe_str)))
  pss_nil)
  (pss_one (ps_ret (pe_op Gx.op_addS (pe_op Gx.op_addS (pe_op Gx.op_addS (pe_ix ix_tup (pv 0) pe_int (fun _ _ => rfl)) pe_str) (Gx.pe_joinG pe_str (pe_lc (own := [("part", 1)]) (g := (gName 1)) (tt := tYes) (by rfl) sc_write_lens.nd (pi_tup (pe_call G_children (hr.mono (by first | decide | omega)) (by rfl) T.g_children T.F_children.kp T.b_children .nil pass0 (pa_cons (pv 0) pa_nil))) (blkOk_by (N := ["tree", "part"]) (sc := defScope s_write_lens) (by decide +kernel)) (fun _ _ _ _ _ => (pg_name (i := 1) sc_write_lens.nd rfl (Or.inl rfl))) (fun _ _ _ _ _ => pts_nil) (fun _ _ _ _ _ => (pe_call G_write_lens (hr.mono (by first | decide | omega)) (by rfl) T.g_write_lens T.F_write_lens.kp T.b_write_lens .nil pass0 (pa_cons (pv 1) pa_nil)))))) pe_str))))), ?_⟩
      clear G_write_lens G_write_pattern G_children
      rw [st_write_lens]
      try dsimp only [cxOf]
      have htl := tag_len t
      have hpl := plainL_len t
      cases e : t.leaf with
      | some pw =>
        obtain ⟨p, ws⟩ := pw
        obtain ⟨a, y, rfl, ha, hy⟩ := ln_leaf ht e
        obtain ⟨hws, hpd, hsz⟩ := leaf_ws e
        have hm : t.tag ∈ leafL := (leaf_tag t).mpr (by rw [e]; simp)
        have epl := plainL_leaf e
        have hjl := congrArg List.length epl
        rw [List.length_append, List.length_cons, List.length_append] at hjl
        have hge := joinL_ge [44] (plain 0 p :: ws)
        walk_at "g"
        refine Gx.ixT ha (Gx.atI_of (k := 0) rfl rfl) ?_
        walk_at "g"
        refine inLeaf T ?_
        walk_at "g"
        rw [decide_eq_true hm]
        walk_at "g"
        refine Gx.ixT ha (Gx.atI_of (k := 0) rfl rfl) ?_
        walk_at "g"
        refine Gx.ixT ha (Gx.atI_of (k := 1) rfl rfl) ?_
        walk_at "g"
        refine ⟨y, p, rfl, hy, by omega, by omega, fun H1 s1 => ?_⟩
        have ha1 := s1.seqT ha
        walk_at "g"
        refine Gx.newL (by simp) (fun l1 H2 E2 => ?_)
        have ha2 := E2.same.seqT ha1
        walk_at "g"
        refine Gx.slA ha2 (fun tp H3 s3 h3 => ?_)
        rw [cut2] at h3
        have e13 := s3 _ _ E2.at_
        walk_at "g"
        refine ⟨tp, _, rfl, .inr h3, fun l2 n2 => ?_⟩
        have E4 := Gx.ext1 (o := .lst ((ws.map Gx.mkS).map V.str)) n2
        have e14 := E4.same _ _ e13
        refine ⟨l1, l2, _, _, rfl, rfl, e14, upd_same, by rw [sizeLine_eq]; simp; omega, fun l3 n3 => ?_⟩
        refine joinC (ls := plain 0 p :: ws) (SqL.of upd_same) (by simp only [List.length_cons, List.length_nil]; omega) ?_
        walk_at "g"
        rw [show t.tag ++ [123] ++ TL.joinL [44] (plain 0 p :: ws) ++ [125] = plainL t by rw [epl]; simp]
        exact q _ (((s1.trans E2.same).trans (s3.trans E4.same)).trans (Gx.Same.put (Same.refl _) n3))
      | none =>
        obtain ⟨a, ys, rfl, ha, hy⟩ := ln_node ht e
        obtain ⟨hk1, hk2⟩ := node_kids e
        have hm : t.tag ∉ leafL := fun h => (leaf_tag t).mp h e
        have epl := plainL_node e
        have hjl := congrArg List.length epl
        rw [List.length_append, List.length_cons, List.length_append] at hjl
        have hge := joinL_ge [44] (t.kids.map plainL)
        have hyl := Gx.dpAll_len hy
        rw [List.length_map] at hyl
        walk_at "g"
        refine Gx.ixT ha (Gx.atI_of (k := 0) rfl rfl) ?_
        walk_at "g"
        refine inLeaf T ?_
        walk_at "g"
        rw [decide_eq_false hm]
        walk_at "g"
        refine Gx.ixT ha (Gx.atI_of (k := 0) rfl rfl) ?_
        walk_at "g"
        refine ⟨a, t.tag, ys, rfl, ha, hm, fun H1 tp s1 h1 => ?_⟩
        walk_at "g"
        have hy1 := Gx.dpAll_same s1 _ _ hy
        refine ⟨⟨_, h1⟩, fun D nD => lc_tup (K := K) (a := tp) (xs := ys) (fun i H' => Same H1 H' ∧ H' D = some (.lst ((((t.kids.take i).map plainL).map Gx.mkS).map V.str))) ⟨Gx.Same.put (Same.refl H1) nD, upd_same⟩ (fun i H' _ z => z.1.seqT h1) ?_ ?_⟩
        · rintro i x H9 hx ⟨s9, e9⟩
          obtain ⟨u, hu, du⟩ := dpAll_get hy1 hx
          have hul := (List.getElem?_eq_some_iff.mp hu).1
          obtain ⟨g1, g2, g3⟩ := hk2 u (List.mem_of_getElem? hu)
          walk_at "g"
          refine ⟨rfl, ?_⟩
          walk_at "g"
          refine ⟨x, u, rfl, Gx.dp_same s9 _ _ du, by omega, by omega, by omega, fun H10 s10 => ?_⟩
          walk_at "g"
          refine ⟨_, s10 _ _ e9, Gx.lineL (by simp; omega), Gx.Same.put (s9.trans s10) nD, ?_⟩
          rw [upd_same, List.take_succ, hu]
          simp
        · rintro H9 ⟨s9, e9⟩
          rw [hyl, List.take_length] at e9
          walk_at "g"
          refine joinC (ls := t.kids.map plainL) (SqL.of e9) (by simp only [List.length_cons, List.length_nil, List.length_map]; omega) ?_
          walk_at "g"
          rw [show t.tag ++ [40] ++ TL.joinL [44] (t.kids.map plainL) ++ [41] = plainL t by rw [epl]; simp]
          exact q _ (s1.trans s9)
end
end K13
namespace K13
open PySem PySem.Spec PyProof.Rows L2
local macro_rules | `(tactic| walk_at "con") => `(tactic| first | with_reducible refine Gx.conE K13.ks0 ?_ | with_reducible refine Gx.conE K13.ks1 ?_ | with_reducible refine Gx.conE K13.ks2 ?_ | with_reducible refine Gx.conE K13.ks3 ?_ | with_reducible refine Gx.conE K13.ks4 ?_ | with_reducible refine Gx.conE K13.ks5 ?_ | with_reducible refine Gx.conE K13.ks6 ?_ | with_reducible refine Gx.conE K13.ks7 ?_ | with_reducible refine Gx.conE K13.ks8 ?_ | with_reducible refine Gx.conE K13.ks9 ?_ | with_reducible refine Gx.conE K13.ks10 ?_ | with_reducible refine Gx.conE K13.ks11 ?_ | with_reducible refine Gx.conE K13.ks12 ?_ | with_reducible refine Gx.conE K13.ks13 ?_ | with_reducible refine Gx.conE K13.ks14 ?_ | with_reducible refine Gx.conE K13.ks15 ?_ | with_reducible refine Gx.conE K13.ks16 ?_ | with_reducible refine Gx.conE K13.ks17 ?_ | with_reducible refine Gx.conE K13.ks18 ?_ | with_reducible refine Gx.conE K13.ks19 ?_ | with_reducible refine Gx.conE K13.ks20 ?_ | with_reducible refine Gx.conE K13.ks21 ?_ | with_reducible refine Gx.conE K13.ks22 ?_ | with_reducible refine Gx.conE K13.ks23 ?_ | with_reducible refine Gx.conE K13.ks24 ?_ | with_reducible refine Gx.conE K13.ks25 ?_ | with_reducible refine Gx.conE K13.ks26 ?_ | with_reducible refine Gx.conE K13.ks27 ?_ | with_reducible refine Gx.conE K13.ks28 ?_ | with_reducible refine Gx.conE K13.ks29 ?_ | with_reducible refine Gx.conE K13.ks30 ?_ | with_reducible refine Gx.conE K13.ks31 ?_ | with_reducible refine Gx.conE K13.ks32 ?_ | with_reducible refine Gx.conE K13.ks33 ?_ | with_reducible refine Gx.conE K13.ks34 ?_ | with_reducible refine Gx.conE K13.ks35 ?_ | with_reducible refine Gx.conE K13.ks36 ?_ | with_reducible refine Gx.conE K13.ks37 ?_ | with_reducible refine Gx.conE K13.ks38 ?_ | with_reducible refine Gx.conE K13.ks39 ?_ | with_reducible refine Gx.conE K13.ks40 ?_ | with_reducible refine Gx.conE K13.ks41 ?_ | with_reducible refine Gx.conE K13.ks42 ?_ | with_reducible refine Gx.conE K13.ks43 ?_ | with_reducible refine Gx.conE K13.ks44 ?_ | with_reducible refine Gx.conE K13.ks45 ?_ | with_reducible refine Gx.conE K13.ks46 ?_ | with_reducible refine Gx.conE K13.ks47 ?_ | with_reducible refine Gx.conE K13.ks48 ?_ | with_reducible refine Gx.conE K13.ks49 ?_ | with_reducible refine Gx.conE K13.ks50 ?_ | with_reducible refine Gx.conE K13.ks51 ?_ | with_reducible refine Gx.conE K13.ks52 ?_ | with_reducible refine Gx.conE K13.ks53 ?_ | with_reducible refine Gx.conE K13.ks54 ?_ | with_reducible refine Gx.conE K13.ks55 ?_ | with_reducible refine Gx.conE K13.ks56 ?_ | with_reducible refine Gx.conE K13.ks57 ?_ | with_reducible refine Gx.conE K13.ks58 ?_ | with_reducible refine Gx.conE K13.ks59 ?_ | with_reducible refine Gx.conE K13.ks60 ?_ | with_reducible refine Gx.conE K13.ks61 ?_ | with_reducible refine Gx.conE K13.ks62 ?_ | with_reducible refine Gx.conE K13.ks63 ?_)
section
variable {P : Program} {w : World} {K : PySem.W.Frag} {mg : Str → Option Value} {base : Heap}
def sp_shared (K : PySem.W.Frag) : Sp := fun vs H Q _ => ∃ (l u : List Nat) (at_ : Nat), vs = [.str (Gx.mkS l), .int (at_ : Nat), .str (Gx.mkS u)] ∧ at_ ≤ l.length ∧ l.length ≤ 100000 ∧ u.length ≤ 100 ∧ Q (.int ((shr (l.drop at_) u : Nat) : Nat)) H
theorem shr_drop : ∀ (s u : List Nat) (k : Nat), k ≤ shr s u → shr s u = k + shr (s.drop k) (u.drop k)
  | s, u, 0, _ => by simp
  | [], u, k + 1, h => by simp [shr] at h
  | c :: s, [], k + 1, h => by simp [shr] at h
  | c :: s, d :: u, k + 1, h => by
    replace h : k + 1 ≤ if c = d then shr s u + 1 else 0 := h
    show (if c = d then shr s u + 1 else 0) = k + 1 + shr (s.drop k) (u.drop k)
    split
    · rename_i e
      rw [if_pos e] at h
      have := shr_drop s u k (by omega)
      omega
    · rename_i e
      rw [if_neg e] at h
      omega
theorem shr_step : ∀ (s u : List Nat) (k : Nat), k ≤ shr s u → ((k < u.length ∧ (s.drop k).take 1 = [u.getD k 0]) ↔ k < shr s u)
  | s, [], k, h => by
    have : shr s [] = 0 := by cases s <;> rfl
    rw [this]
    simp
  | [], d :: u, k, h => by simp [shr]
  | c :: s, d :: u, 0, h => by
    show (0 < (d :: u).length ∧ [c] = [d]) ↔ 0 < if c = d then shr s u + 1 else 0
    by_cases e : c = d
    · subst e; simp
    · rw [if_neg e]; simp [e]
  | c :: s, d :: u, k + 1, h => by
    replace h : k + 1 ≤ if c = d then shr s u + 1 else 0 := h
    show (k + 1 < u.length + 1 ∧ (s.drop k).take 1 = [u.getD k 0]) ↔ k + 1 < if c = d then shr s u + 1 else 0
    split at h
    · rename_i e
      have := shr_step s u k (by omega)
      rw [if_pos e]
      constructor
      · rintro ⟨h1, h2⟩
        have := this.mp ⟨by omega, h2⟩
        omega
      · intro h1
        obtain ⟨h2, h3⟩ := this.mpr (by omega)
        exact ⟨by omega, h3⟩
    · omega
theorem G_shared_size (T : Txt K mg w) : FnOk P w K mg base CX0 1 T.f_shared_size T.fd_shared_size ["text", "at", "word"] (sp_shared K) := by
  refine T.F_shared_size.ok sc_shared_size (fun vs H Q E h => ?_) (fun cdv A outer s H vs Q E hr h => ?_)
  · obtain ⟨l, u, at_, rfl, _⟩ := h
    rfl
  · obtain ⟨l, u, at_, rfl, ha, hl, hu, q⟩ := h
    refine ⟨_, ((pss_cons (ps_set (i := 3) sc_shared_size.nd rfl (Or.inl rfl) pe_int)
  (pss_cons (ps_while PassesOwn.never (PW.pt (pw_and (pt_cmpR op_lt (pv 3) (pe_callB Gx.cr_lenS (by rfl) T.z_len bt_len (pa_cons (pv 2) pa_nil)) (nomark _)) (pw_and1 (pt_cmpR op_eq (pe_slice sl_str (pv 0) (po_some (pe_op op_add (pv 1) (pv 3))) (po_some (pe_op op_add (pe_op op_add (pv 1) (pv 3)) pe_int))) (pe_ix ix_str (pv 2) (pv 3) (fun _ _ => rfl)) (nomark _)))))
  (pss_one (ps_aug (i := 3) sc_shared_size.nd rfl (Or.inl rfl) pe_int ip_add)))
  (pss_one (ps_ret (pv 3)))))), ?_⟩
    rw [st_shared_size]
    try dsimp only [cxOf]
    walk_at "g"
    refine Gx.wh (W := fun m σ H' => ∃ k : Nat, H' = H ∧ k ≤ shr (l.drop at_) u ∧ m = u.length - k ∧ σ = [some (.str (Gx.mkS l)), some (.int (at_ : Nat)), some (.str (Gx.mkS u)), some (.int (k : Nat))]) (m0 := u.length) ⟨0, rfl, Nat.zero_le _, rfl, rfl⟩ ?_
    rintro m σ H' ⟨k, rfl, hk, rfl, rfl⟩
    have hle := shr_le (l.drop at_) u
    rw [List.length_drop] at hle
    have hst := shr_step (l.drop at_) u k hk
    rw [List.drop_drop] at hst
    walk_at "g"
    refine Gx.and2T (p2 := (l.drop (at_ + k)).take 1 = [u.getD k 0]) (fun hc Q' hQ' => ?_) ?_
    · have hc' : k < u.length := by omega
      walk_at "g"
      rw [show ((l.take ((at_ : Int) + (k : Int) + 1).toNat).drop ((at_ : Int) + (k : Int)).toNat) = (l.drop (at_ + k)).take 1 by
        rw [show ((at_ : Int) + (k : Int) + 1) = ((at_ + k : Nat) : Int) + 1 by omega, show ((at_ : Int) + (k : Int)) = ((at_ + k : Nat) : Int) by omega, sl1]]
      exact hQ'
    refine Gx.iteD (fun hc => ?_) (fun hc => ?_)
    · have h2 := hst.mp ⟨by omega, hc.2⟩
      refine ⟨fun σ' H'' => H'' = H' ∧ σ' = [some (.str (Gx.mkS l)), some (.int (at_ : Nat)), some (.str (Gx.mkS u)), some (.int ((k + 1 : Nat) : Nat))], ?_, ?_⟩
      · rintro σ' H'' ⟨rfl, rfl⟩
        exact ⟨_, by omega, k + 1, rfl, h2, rfl, rfl⟩
      · walk_at "g"
        exact ⟨rfl, rfl⟩
    · walk_at "g"
      have : shr (l.drop at_) u = k := by
        rcases Nat.lt_or_ge k (shr (l.drop at_) u) with h | h
        · have h2 := hst.mpr h
          exact absurd ⟨by omega, h2.2⟩ hc
        · omega
      rw [this] at q
      exact q
/-- what a reader promises: the tree (or what else) with the place behind it, or the place of the fault -/
def PRa {α : Type} (K : PySem.W.Frag) (B : Addr) (l : List Nat) (D : α → PyData) (x : Rs α) (H : Hp) (Q : VK) (E : XK) : Prop := match x with
  | .ok p r => ∀ H' t v, Same H H' → SqT K H' t [v, .int ((l.length - r.length : Nat) : Nat)] → Dp K H' v (D p) → Q (.ref t) H'
  | .bad r => ∀ H' d, Same H H' → H d = none → H' d = some (xdOf (l.length - r.length)) → E (.ref B) (some d) H'
def sp_opener (K : PySem.W.Frag) (B : Addr) : Sp := fun vs H Q E => ∃ (l : List Nat) (at_ : Nat), vs = [.str (Gx.mkS l), .int (at_ : Nat)] ∧ at_ ≤ l.length ∧ l.length ≤ 100000 ∧ (match opn (l.drop at_) with
    | .ok u _ => Q (.str (Gx.mkS u)) H
    | .bad r => ∀ H' d, Same H H' → H d = none → H' d = some (xdOf (l.length - r.length)) → E (.ref B) (some d) H')
theorem ops_eq : (["copy{", "hide{", "swap{", "then(", "or(", "keyed(", "after(", "again("] : List Str) = opL.map Gx.mkS := by decide +kernel
theorem opL_len : ∀ u ∈ opL, u.length ≤ 6 := by decide
/-- the longest start of the first words -/
def lngN (s : List Nat) : Nat → Nat
  | 0 => 0
  | i + 1 => max (lngN s i) (shr s (opL.getD i []))
theorem opnL_at (s : List Nat) : ∀ i, i ≤ opL.length → (∀ j, j < i → shr s (opL.getD j []) ≠ (opL.getD j []).length) → opn s = opnL (opL.drop i) (lngN s i) s
  | 0, _, _ => rfl
  | i + 1, hi, h => by
    rw [opnL_at s i (by omega) fun j hj => h j (by omega)]
    have e : opL.drop i = opL.getD i [] :: opL.drop (i + 1) := by
      rw [List.getD_eq_getElem?_getD, List.getElem?_eq_getElem (show i < opL.length by omega)]
      exact List.drop_eq_getElem_cons (by omega)
    rw [e, opnL, if_neg (h i (by omega))]
    rfl
set_option maxHeartbeats 4000000 in
theorem G_opener_at (T : Txt K mg w) : FnOk P w K mg base (L2.CX P w) 3 T.f_opener_at T.fd_opener_at ["text", "at"] (sp_opener K T.a_BadText) := by
  have G_BadText_init := G_BadText_init (P := P) (w := w) (base := base) T
  have G_shared_size := G_shared_size (P := P) (w := w) (base := base) T
  refine T.F_opener_at.okX sc_opener_at (fun vs H Q E h => ?_) (fun cdv A outer s H vs Q E hr h => ?_)
  · obtain ⟨l, at_, rfl, _⟩ := h
    rfl
  · obtain ⟨l, at_, rfl, ha, hl, q⟩ := h
    refine ⟨_, ((pss_cons (ps_set (i := 2) sc_opener_at.nd rfl (Or.inl rfl) pe_int)
  (pss_cons (ps_for (passes_of rfl) rfl (pi_tup (pe_glob (v := .ref T.a_OPENERS) rfl T.g_OPENERS rfl)) (pg_name (i := 3) sc_opener_at.nd rfl (Or.inl rfl))
  (pss_cons (ps_set (i := 4) sc_opener_at.nd rfl (Or.inl rfl) (pe_call G_shared_size (hr.mono (by first | decide | omega)) (by rfl) T.g_shared_size T.F_shared_size.kp T.b_shared_size .nil pass0 (pa_cons (pv 0) (pa_cons (pv 1) (pa_cons (pv 3) pa_nil)))))
  (pss_cons (ps_if (pt_cmpR op_eq (pv 4) (pe_callB Gx.cr_lenS (by rfl) T.z_len bt_len (pa_cons (pv 3) pa_nil)) (nomark _))
  (pss_one (ps_ret (pv 3)))
  pss_nil)
  (pss_one (ps_set (i := 2) sc_opener_at.nd rfl (Or.inl rfl) (pe_callB (Gx.cr_max2 rfl) (by rfl) T.z_max bt_max (pa_cons (pv 2) (pa_cons (pv 4) pa_nil))))))))
  (pss_one (ps_raise rfl (takes_of rfl rfl rfl rfl) (pmk_oex T.o_BadText T.oi_BadText T.ot_BadText G_BadText_init (hr.mono (by first | decide | omega)) T.b_BadText_init .nil pass0 rfl T.g_BadText (pa_cons (pe_op op_add (pv 1) (pv 2)) pa_nil))))))), ?_⟩
    clear G_BadText_init G_shared_size
    rw [st_opener_at]
    try dsimp only [cxOf]
    have ho : ∀ H' : Hp, SqT K H' T.a_OPENERS ((opL.map Gx.mkS).map V.str) := fun H' => by
      have := T.kt_OPENERS H'
      rwa [ops_eq] at this
    walk_at "g"
    refine ⟨⟨_, ho H⟩, for_tup (K := K) (a := T.a_OPENERS) (xs := (opL.map Gx.mkS).map V.str) (fun i σ H' => H' = H ∧ (∀ j, j < i → shr (l.drop at_) (opL.getD j []) ≠ (opL.getD j []).length) ∧ lngN (l.drop at_) i ≤ l.length - at_ ∧ ∃ y z, σ = [some (.str (Gx.mkS l)), some (.int (at_ : Nat)), some (.int (lngN (l.drop at_) i : Nat)), y, z]) ⟨rfl, fun j hj => absurd hj (Nat.not_lt_zero _), Nat.zero_le _, _, _, rfl⟩ (fun i σ H' _ _ => ho H') ?_ ?_⟩
    · rintro i x σ H' hi ⟨rfl, hj, hlg, y, z, rfl⟩
      rw [List.getElem?_map, List.getElem?_map] at hi
      obtain ⟨x1, hx, rfl⟩ := Option.map_eq_some_iff.mp hi
      obtain ⟨u, hu, rfl⟩ := Option.map_eq_some_iff.mp hx
      have hil := (List.getElem?_eq_some_iff.mp hu).1
      have hug : opL.getD i [] = u := by rw [List.getD_eq_getElem?_getD, hu]; rfl
      have hul := opL_len u (List.mem_of_getElem? hu)
      have hsl := shr_le (l.drop at_) u
      rw [List.length_drop] at hsl
      have hop := opnL_at (l.drop at_) i (by omega) hj
      walk_at "g"
      refine ⟨l, u, at_, rfl, ha, hl, by omega, ?_⟩
      walk_at "g"
      refine Gx.iteD (fun he => ?_) (fun he => ?_)
      · have e : opn (l.drop at_) = .ok u ((l.drop at_).drop u.length) := by
          have ed : opL.drop i = opL.getD i [] :: opL.drop (i + 1) := by
            rw [List.getD_eq_getElem?_getD, List.getElem?_eq_getElem hil]
            exact List.drop_eq_getElem_cons (by omega)
          rw [hop, ed, opnL, hug, if_pos (by omega)]
        rw [e] at q
        walk_at "g"
        exact q
      · walk_at "g"
        refine ⟨rfl, fun j hj2 => ?_, ?_, some (.str (Gx.mkS u)), some (.int (shr (l.drop at_) u : Nat)), ?_⟩
        · by_cases h : j = i
          · subst h; rw [hug]; omega
          · exact hj j (by omega)
        · rw [lngN, hug]; omega
        · rw [lngN, hug, show (if (shr (l.drop at_) u : Int) > (lngN (l.drop at_) i : Int) then (shr (l.drop at_) u : Int) else (lngN (l.drop at_) i : Int)) = ((max (lngN (l.drop at_) i) (shr (l.drop at_) u) : Nat) : Int) by split <;> omega]
    · rintro σ H' ⟨rfl, hj, hlg, y, z, rfl⟩
      rw [List.length_map, List.length_map] at hj hlg ⊢
      have hop := opnL_at (l.drop at_) opL.length (Nat.le_refl _) hj
      rw [List.drop_length, opnL] at hop
      rw [hop] at q
      dsimp only at q
      walk_at "g"
      refine Gx.mkO ?_ ?_
      · walk_at "g"
        refine ⟨_, rfl, fun d nd => q _ d (Gx.Same.put (Same.refl _) nd) nd ?_⟩
        rw [upd_same, List.length_drop, List.length_drop]
        rw [show (at_ : Int) + (lngN (l.drop at_) opL.length : Int) = ((l.length - (l.length - at_ - lngN (l.drop at_) opL.length) : Nat) : Int) by omega]
        rfl
      · rintro Q1 Q2 h12 ⟨v, e, v2, e2, i1, j1, ei, ej, h⟩
        exact ⟨v, e, v2, e2, i1, j1, ei, ej, h12 _ _ h⟩
end
end K13
namespace K13
open PySem PySem.Spec PyProof.Rows L2
local macro_rules | `(tactic| walk_at "con") => `(tactic| first | with_reducible refine Gx.conE K13.ks0 ?_ | with_reducible refine Gx.conE K13.ks1 ?_ | with_reducible refine Gx.conE K13.ks2 ?_ | with_reducible refine Gx.conE K13.ks3 ?_ | with_reducible refine Gx.conE K13.ks4 ?_ | with_reducible refine Gx.conE K13.ks5 ?_ | with_reducible refine Gx.conE K13.ks6 ?_ | with_reducible refine Gx.conE K13.ks7 ?_ | with_reducible refine Gx.conE K13.ks8 ?_ | with_reducible refine Gx.conE K13.ks9 ?_ | with_reducible refine Gx.conE K13.ks10 ?_ | with_reducible refine Gx.conE K13.ks11 ?_ | with_reducible refine Gx.conE K13.ks12 ?_ | with_reducible refine Gx.conE K13.ks13 ?_ | with_reducible refine Gx.conE K13.ks14 ?_ | with_reducible refine Gx.conE K13.ks15 ?_ | with_reducible refine Gx.conE K13.ks16 ?_ | with_reducible refine Gx.conE K13.ks17 ?_ | with_reducible refine Gx.conE K13.ks18 ?_ | with_reducible refine Gx.conE K13.ks19 ?_ | with_reducible refine Gx.conE K13.ks20 ?_ | with_reducible refine Gx.conE K13.ks21 ?_ | with_reducible refine Gx.conE K13.ks22 ?_ | with_reducible refine Gx.conE K13.ks23 ?_ | with_reducible refine Gx.conE K13.ks24 ?_ | with_reducible refine Gx.conE K13.ks25 ?_ | with_reducible refine Gx.conE K13.ks26 ?_ | with_reducible refine Gx.conE K13.ks27 ?_ | with_reducible refine Gx.conE K13.ks28 ?_ | with_reducible refine Gx.conE K13.ks29 ?_ | with_reducible refine Gx.conE K13.ks30 ?_ | with_reducible refine Gx.conE K13.ks31 ?_ | with_reducible refine Gx.conE K13.ks32 ?_ | with_reducible refine Gx.conE K13.ks33 ?_ | with_reducible refine Gx.conE K13.ks34 ?_ | with_reducible refine Gx.conE K13.ks35 ?_ | with_reducible refine Gx.conE K13.ks36 ?_ | with_reducible refine Gx.conE K13.ks37 ?_ | with_reducible refine Gx.conE K13.ks38 ?_ | with_reducible refine Gx.conE K13.ks39 ?_ | with_reducible refine Gx.conE K13.ks40 ?_ | with_reducible refine Gx.conE K13.ks41 ?_ | with_reducible refine Gx.conE K13.ks42 ?_ | with_reducible refine Gx.conE K13.ks43 ?_ | with_reducible refine Gx.conE K13.ks44 ?_ | with_reducible refine Gx.conE K13.ks45 ?_ | with_reducible refine Gx.conE K13.ks46 ?_ | with_reducible refine Gx.conE K13.ks47 ?_ | with_reducible refine Gx.conE K13.ks48 ?_ | with_reducible refine Gx.conE K13.ks49 ?_ | with_reducible refine Gx.conE K13.ks50 ?_ | with_reducible refine Gx.conE K13.ks51 ?_ | with_reducible refine Gx.conE K13.ks52 ?_ | with_reducible refine Gx.conE K13.ks53 ?_ | with_reducible refine Gx.conE K13.ks54 ?_ | with_reducible refine Gx.conE K13.ks55 ?_ | with_reducible refine Gx.conE K13.ks56 ?_ | with_reducible refine Gx.conE K13.ks57 ?_ | with_reducible refine Gx.conE K13.ks58 ?_ | with_reducible refine Gx.conE K13.ks59 ?_ | with_reducible refine Gx.conE K13.ks60 ?_ | with_reducible refine Gx.conE K13.ks61 ?_ | with_reducible refine Gx.conE K13.ks62 ?_ | with_reducible refine Gx.conE K13.ks63 ?_)
section
variable {P : Program} {w : World} {K : PySem.W.Frag} {mg : Str → Option Value} {base : Heap}
def sp_ren (K : PySem.W.Frag) (B : Addr) : Sp := fun vs H Q E => ∃ (l : List Nat) (at_ : Nat), vs = [.str (Gx.mkS l), .int (at_ : Nat)] ∧ at_ ≤ l.length ∧ l.length ≤ 100000 ∧ (match ren (l.drop at_) with
    | .ok _ r => Q (.int ((l.length - r.length : Nat) : Nat)) H
    | .bad r => ∀ H' d, Same H H' → H d = none → H' d = some (xdOf (l.length - r.length)) → E (.ref B) (some d) H')
theorem take_next {l : List Nat} {a b c : Nat} {r : List Nat} (h : l.drop a = c :: r) (hb : b ≤ a) : (l.take (a + 1)).drop b = (l.take a).drop b ++ [c] := by
  obtain ⟨h1, _, h3⟩ := suf_at h
  rw [List.getD_eq_getElem?_getD, List.getElem?_eq_getElem h1] at h3
  have h3 : l[a] = c := h3
  rw [List.take_succ, List.getElem?_eq_getElem h1, h3, List.drop_append_of_le_length (by rw [List.length_take]; omega)]
  rfl
set_option maxHeartbeats 4000000 in
theorem G_renaming_end (T : Txt K mg w) : FnOk P w K mg base (L2.CX P w) 3 T.f_renaming_end T.fd_renaming_end ["text", "at"] (sp_ren K T.a_BadText) := by
  have G_BadText_init := G_BadText_init (P := P) (w := w) (base := base) T
  refine T.F_renaming_end.okX sc_renaming_end (fun vs H Q E h => ?_) (fun cdv A outer s H vs Q E hr h => ?_)
  · obtain ⟨l, at_, rfl, _⟩ := h
    rfl
  · obtain ⟨l, at_, rfl, ha, hl, q⟩ := h
    refine ⟨_, ((pss_cons (ps_set (i := 2) sc_renaming_end.nd rfl (Or.inl rfl) (pv 1))
  (pss_cons (ps_while (passes_of rfl) (PW.pt (pw_and (pt_cmpR (Gx.op_inK T.kd_PLACES) (pe_slice sl_str (pv 0) (po_some (pv 1)) (po_some (pe_op op_add (pv 1) pe_int))) (pe_glob (v := .ref T.a_PLACES) rfl T.g_PLACES rfl) rfl) (pw_and1 (pt_cmpR Gx.op_notInSg (pe_ix ix_str (pv 0) (pv 1) (fun _ _ => rfl)) (pe_slice sl_str (pv 0) (po_some (pv 2)) (po_some (pv 1))) rfl))))
  (pss_one (ps_aug (i := 1) sc_renaming_end.nd rfl (Or.inl rfl) pe_int ip_add)))
  (pss_cons (ps_if (pt_cmpR op_lt (pv 1) (pe_op op_add (pv 2) (pe_callB (Gx.cr_lenK T.kd_PLACES (by decide +kernel) (by decide)) (by rfl) T.z_len bt_len (pa_cons (pe_glob (v := .ref T.a_PLACES) rfl T.g_PLACES rfl) pa_nil))) (nomark _))
  (pss_one (ps_raise rfl (takes_of rfl rfl rfl rfl) (pmk_oex T.o_BadText T.oi_BadText T.ot_BadText G_BadText_init (hr.mono (by first | decide | omega)) T.b_BadText_init .nil pass0 rfl T.g_BadText (pa_cons (pv 1) pa_nil))))
  pss_nil)
  (pss_one (ps_ret (pv 1))))))), ?_⟩
    clear G_BadText_init
    rw [st_renaming_end]
    try dsimp only [cxOf]
    walk_at "g"
    refine Gx.wh (W := fun m σ H' => ∃ a : Nat, H' = H ∧ at_ ≤ a ∧ a ≤ l.length ∧ m = l.length - a ∧ (spanD ((l.take a).drop at_) (l.drop a)).2 = (spanD [] (l.drop at_)).2 ∧ (spanD ((l.take a).drop at_) (l.drop a)).1.length + (a - at_) = (spanD [] (l.drop at_)).1.length ∧ σ = [some (.str (Gx.mkS l)), some (.int (a : Nat)), some (.int (at_ : Nat))]) (m0 := l.length - at_)
      ⟨at_, rfl, Nat.le_refl _, ha, rfl, by rw [List.drop_eq_nil_of_le (by rw [List.length_take]; omega)], by rw [List.drop_eq_nil_of_le (by rw [List.length_take]; omega)]; omega, rfl⟩ ?_
    rintro m σ H' ⟨a, rfl, haa, hal, rfl, hs2, hs1, rfl⟩
    have ends : (spanD ((l.take a).drop at_) (l.drop a)).1 = [] → (spanD ((l.take a).drop at_) (l.drop a)).2 = l.drop a → (spanD [] (l.drop at_)).2 = l.drop a ∧ (spanD [] (l.drop at_)).1.length = a - at_ := fun e1 e2 => by
      rw [e2] at hs2
      rw [e1] at hs1
      exact ⟨hs2.symm, by simpa using hs1.symm⟩
    have hla : l.length - (l.drop a).length = a := by rw [List.length_drop]; omega
    walk_at "g"
    rw [sl1]
    rw [plc_take]
    cases hd : l.drop a with
    | nil =>
      rw [hd] at ends hla
      obtain ⟨k1, k2⟩ := ends rfl rfl
      rw [show isSg [] = false from rfl]
      walk_at "g"
      show Gx.rLenK T.a_PLACES 5 _ _ _
      refine Gx.lenK ?_
      unfold ren at q
      rw [k1, k2] at q
      walk_at "g"
      refine Gx.iteD (fun h5 => ?_) (fun h5 => ?_)
      · rw [if_pos (by omega)] at q
        dsimp only at q
        rw [hla] at q
        refine Gx.mkO ?_ ?_
        · walk_at "g"
          exact ⟨_, rfl, fun d nd => q _ d (Gx.Same.put (Same.refl _) nd) nd upd_same⟩
        · rintro Q1 Q2 h12 ⟨v, e, h⟩
          exact ⟨v, e, h12 _ _ h⟩
      · rw [if_neg (by omega)] at q
        dsimp only at q
        rw [hla] at q
        walk_at "g"
        exact q
    | cons c r =>
      obtain ⟨h1, h2, h3⟩ := suf_at hd
      rw [show isSg (c :: r) = decide (c ∈ sgs) from rfl]
      refine Gx.and2T (p2 := c ∉ (l.take a).drop at_) (fun hc Q' hQ' => ?_) ?_
      · walk_at "g"
        have hq2 : Q' (!decide (l.getD a 0 ∈ (l.take a).drop at_)) H' := by
          rw [h3, show (!decide (c ∈ (l.take a).drop at_)) = decide (c ∉ (l.take a).drop at_) by simp]
          exact hQ'
        exact hq2
      refine Gx.iteD (fun hc => ?_) (fun hc => ?_)
      · refine ⟨fun σ' H'' => H'' = H' ∧ σ' = [some (.str (Gx.mkS l)), some (.int ((a + 1 : Nat) : Nat)), some (.int (at_ : Nat))], ?_, ?_⟩
        · rintro σ' H'' ⟨rfl, rfl⟩
          rw [hd, spanD, if_pos hc] at hs2 hs1
          refine ⟨_, by omega, a + 1, rfl, by omega, by omega, rfl, ?_, ?_, rfl⟩
          · rw [take_next hd haa, h2]; exact hs2
          · rw [take_next hd haa, h2]
            rw [List.length_cons] at hs1
            omega
        · walk_at "g"
          exact ⟨rfl, rfl⟩
      · rw [hd, spanD, if_neg hc] at ends
        rw [hd] at hla
        obtain ⟨k1, k2⟩ := ends rfl rfl
        walk_at "g"
        show Gx.rLenK T.a_PLACES 5 _ _ _
        refine Gx.lenK ?_
        unfold ren at q
        rw [k1, k2] at q
        walk_at "g"
        refine Gx.iteD (fun h5 => ?_) (fun h5 => ?_)
        · rw [if_pos (by omega)] at q
          dsimp only at q
          rw [hla] at q
          refine Gx.mkO ?_ ?_
          · walk_at "g"
            exact ⟨_, rfl, fun d nd => q _ d (Gx.Same.put (Same.refl _) nd) nd upd_same⟩
          · rintro Q1 Q2 h12 ⟨v, e, h⟩
            exact ⟨v, e, h12 _ _ h⟩
        · rw [if_neg (by omega)] at q
          dsimp only at q
          rw [hla] at q
          walk_at "g"
          exact q
end
end K13
namespace K13
open PySem PySem.Spec PyProof.Rows L2
local macro_rules | `(tactic| walk_at "con") => `(tactic| first | with_reducible refine Gx.conE K13.ks0 ?_ | with_reducible refine Gx.conE K13.ks1 ?_ | with_reducible refine Gx.conE K13.ks2 ?_ | with_reducible refine Gx.conE K13.ks3 ?_ | with_reducible refine Gx.conE K13.ks4 ?_ | with_reducible refine Gx.conE K13.ks5 ?_ | with_reducible refine Gx.conE K13.ks6 ?_ | with_reducible refine Gx.conE K13.ks7 ?_ | with_reducible refine Gx.conE K13.ks8 ?_ | with_reducible refine Gx.conE K13.ks9 ?_ | with_reducible refine Gx.conE K13.ks10 ?_ | with_reducible refine Gx.conE K13.ks11 ?_ | with_reducible refine Gx.conE K13.ks12 ?_ | with_reducible refine Gx.conE K13.ks13 ?_ | with_reducible refine Gx.conE K13.ks14 ?_ | with_reducible refine Gx.conE K13.ks15 ?_ | with_reducible refine Gx.conE K13.ks16 ?_ | with_reducible refine Gx.conE K13.ks17 ?_ | with_reducible refine Gx.conE K13.ks18 ?_ | with_reducible refine Gx.conE K13.ks19 ?_ | with_reducible refine Gx.conE K13.ks20 ?_ | with_reducible refine Gx.conE K13.ks21 ?_ | with_reducible refine Gx.conE K13.ks22 ?_ | with_reducible refine Gx.conE K13.ks23 ?_ | with_reducible refine Gx.conE K13.ks24 ?_ | with_reducible refine Gx.conE K13.ks25 ?_ | with_reducible refine Gx.conE K13.ks26 ?_ | with_reducible refine Gx.conE K13.ks27 ?_ | with_reducible refine Gx.conE K13.ks28 ?_ | with_reducible refine Gx.conE K13.ks29 ?_ | with_reducible refine Gx.conE K13.ks30 ?_ | with_reducible refine Gx.conE K13.ks31 ?_ | with_reducible refine Gx.conE K13.ks32 ?_ | with_reducible refine Gx.conE K13.ks33 ?_ | with_reducible refine Gx.conE K13.ks34 ?_ | with_reducible refine Gx.conE K13.ks35 ?_ | with_reducible refine Gx.conE K13.ks36 ?_ | with_reducible refine Gx.conE K13.ks37 ?_ | with_reducible refine Gx.conE K13.ks38 ?_ | with_reducible refine Gx.conE K13.ks39 ?_ | with_reducible refine Gx.conE K13.ks40 ?_ | with_reducible refine Gx.conE K13.ks41 ?_ | with_reducible refine Gx.conE K13.ks42 ?_ | with_reducible refine Gx.conE K13.ks43 ?_ | with_reducible refine Gx.conE K13.ks44 ?_ | with_reducible refine Gx.conE K13.ks45 ?_ | with_reducible refine Gx.conE K13.ks46 ?_ | with_reducible refine Gx.conE K13.ks47 ?_ | with_reducible refine Gx.conE K13.ks48 ?_ | with_reducible refine Gx.conE K13.ks49 ?_ | with_reducible refine Gx.conE K13.ks50 ?_ | with_reducible refine Gx.conE K13.ks51 ?_ | with_reducible refine Gx.conE K13.ks52 ?_ | with_reducible refine Gx.conE K13.ks53 ?_ | with_reducible refine Gx.conE K13.ks54 ?_ | with_reducible refine Gx.conE K13.ks55 ?_ | with_reducible refine Gx.conE K13.ks56 ?_ | with_reducible refine Gx.conE K13.ks57 ?_ | with_reducible refine Gx.conE K13.ks58 ?_ | with_reducible refine Gx.conE K13.ks59 ?_ | with_reducible refine Gx.conE K13.ks60 ?_ | with_reducible refine Gx.conE K13.ks61 ?_ | with_reducible refine Gx.conE K13.ks62 ?_ | with_reducible refine Gx.conE K13.ks63 ?_)
section
variable {P : Program} {w : World} {K : PySem.W.Frag} {mg : Str → Option Value} {base : Heap}
theorem fin_bad {α : Type} {c : Nat} {a : α} {r : List Nat} (h : ∀ u, r ≠ c :: u) : fin c a r = .bad r := by
  cases r with
  | nil => rfl
  | cons d r =>
    show (if d = c then Rs.ok a r else Rs.bad (d :: r)) = _
    rw [if_neg fun e => h r (by rw [e])]
theorem bind_B {α β : Type} (r : List Nat) (f : α → List Nat → Rs β) : (Rs.bad r).bind f = .bad r := rfl
def leafR (sh : List Nat) (I : List Nat → Rs Pat) (s : List Nat) : Rs Ln := if sh = copyS then copyR I s else if sh = swapS then swapR I s else hideR I s
def spLeaf (K : PySem.W.Frag) (B : Addr) (n : Nat) : Sp := fun vs H Q E => ∃ (l : List Nat) (at_ : Nat) (sh : List Nat), vs = [.str (Gx.mkS l), .int (at_ : Nat), .str (Gx.mkS sh)] ∧ at_ ≤ l.length ∧ l.length ≤ 100000 ∧ dep (l.drop at_) ≤ n ∧ (sh = copyS ∨ sh = swapS ∨ sh = hideS) ∧ PRa K B l lnD (leafR sh (inn (n + 1)) (l.drop at_)) H Q E
theorem behind_len {l r : List Nat} {a c : Nat} (h : l.drop a = c :: r) : l.length - r.length = a + 1 := by
  have := congrArg List.length h
  rw [List.length_drop, List.length_cons] at this
  omega
set_option maxHeartbeats 8000000 in
theorem G_leaf_at (T : Txt K mg w) (n : Nat) : FnOk P w K mg base (L2.CX P w) (4 * n + 9) T.f_leaf_at T.fd_leaf_at ["text", "at", "shape"] (spLeaf K T.a_BadText n) := by
  have G_pattern_at := G_pattern_at (P := P) (w := w) (base := base) T (n + 1)
  have G_behind := G_behind (P := P) (w := w) (base := base) T
  have G_signs_end := G_signs_end (P := P) (w := w) (base := base) T
  have G_renaming_end := G_renaming_end (P := P) (w := w) (base := base) T
  refine T.F_leaf_at.okX sc_leaf_at (fun vs H Q E h => ?_) (fun cdv A outer s H vs Q E hr h => ?_)
  · obtain ⟨l, at_, sh, rfl, _⟩ := h
    rfl
  · obtain ⟨l, at_, sh, rfl, ha, hl, hdp, hsh, q⟩ := h
    refine ⟨_, ((pss_cons (ps_asg (pe_call G_pattern_at (hr.mono (by first | decide | omega)) (by rfl) T.g_pattern_at T.F_pattern_at.kp T.b_pattern_at .nil (passes_call (takes_of rfl rfl rfl rfl) (fun _ _ _ _ h => h)) (pa_cons (pv 0) (pa_cons (pv 1) pa_nil))) (pg_tup rfl (pgs_cons (pg_name (i := 3) sc_leaf_at.nd rfl (Or.inl rfl)) (pgs_cons (pg_name (i := 1) sc_leaf_at.nd rfl (Or.inl rfl)) pgs_nil))))
  (pss_cons (ps_if (pt_cmpR op_eq (pv 2) pe_str (nomark _))
  (pss_one (ps_ret (pe_tup (pa_cons (pe_tup (pa_cons pe_str (pa_cons (pv 3) pa_nil))) (pa_cons (pe_call G_behind (hr.mono (by first | decide | omega)) (by rfl) T.g_behind T.F_behind.kp T.b_behind .nil (passes_call (takes_of rfl rfl rfl rfl) (fun _ _ _ _ h => h)) (pa_cons (pv 0) (pa_cons (pv 1) (pa_cons pe_str pa_nil)))) pa_nil)))))
  pss_nil)
  (pss_cons (ps_set (i := 4) sc_leaf_at.nd rfl (Or.inl rfl) (pe_call G_behind (hr.mono (by first | decide | omega)) (by rfl) T.g_behind T.F_behind.kp T.b_behind .nil (passes_call (takes_of rfl rfl rfl rfl) (fun _ _ _ _ h => h)) (pa_cons (pv 0) (pa_cons (pv 1) (pa_cons pe_str pa_nil)))))
  (pss_cons (ps_if (pt_cmpR op_eq (pv 2) pe_str (nomark _))
  (pss_cons (ps_set (i := 5) sc_leaf_at.nd rfl (Or.inl rfl) (pe_call G_renaming_end (hr.mono (by first | decide | omega)) (by rfl) T.g_renaming_end T.F_renaming_end.kp T.b_renaming_end .nil (passes_call (takes_of rfl rfl rfl rfl) (fun _ _ _ _ h => h)) (pa_cons (pv 0) (pa_cons (pv 4) pa_nil))))
  (pss_one (ps_ret (pe_tup (pa_cons (pe_tup (pa_cons pe_str (pa_cons (pv 3) (pa_cons (pe_slice sl_str (pv 0) (po_some (pv 4)) (po_some (pv 5))) pa_nil)))) (pa_cons (pe_call G_behind (hr.mono (by first | decide | omega)) (by rfl) T.g_behind T.F_behind.kp T.b_behind .nil (passes_call (takes_of rfl rfl rfl rfl) (fun _ _ _ _ h => h)) (pa_cons (pv 0) (pa_cons (pv 5) (pa_cons pe_str pa_nil)))) pa_nil))))))
  pss_nil)
  (pss_cons (ps_set (i := 5) sc_leaf_at.nd rfl (Or.inl rfl) (pe_call G_signs_end (hr.mono (by first | decide | omega)) (by rfl) T.g_signs_end T.F_signs_end.kp T.b_signs_end .nil pass0 (pa_cons (pv 0) (pa_cons (pv 4) pa_nil))))
  (pss_cons (ps_set (i := 6) sc_leaf_at.nd rfl (Or.inl rfl) (pe_call G_behind (hr.mono (by first | decide | omega)) (by rfl) T.g_behind T.F_behind.kp T.b_behind .nil (passes_call (takes_of rfl rfl rfl rfl) (fun _ _ _ _ h => h)) (pa_cons (pv 0) (pa_cons (pv 5) (pa_cons pe_str pa_nil)))))
  (pss_cons (ps_set (i := 7) sc_leaf_at.nd rfl (Or.inl rfl) (pe_call G_signs_end (hr.mono (by first | decide | omega)) (by rfl) T.g_signs_end T.F_signs_end.kp T.b_signs_end .nil pass0 (pa_cons (pv 0) (pa_cons (pv 6) pa_nil))))
  (pss_one (ps_ret (pe_tup (pa_cons (pe_tup (pa_cons pe_str (pa_cons (pv 3) (pa_cons (pe_slice sl_str (pv 0) (po_some (pv 4)) (po_some (pv 5))) (pa_cons (pe_slice sl_str (pv 0) (po_some (pv 6)) (po_some (pv 7))) pa_nil))))) (pa_cons (pe_call G_behind (hr.mono (by first | decide | omega)) (by rfl) T.g_behind T.F_behind.kp T.b_behind .nil (passes_call (takes_of rfl rfl rfl rfl) (fun _ _ _ _ h => h)) (pa_cons (pv 0) (pa_cons (pv 7) (pa_cons pe_str pa_nil)))) pa_nil))))))))))))), ?_⟩
    clear G_pattern_at G_behind G_signs_end G_renaming_end
    rw [st_leaf_at]
    try dsimp only [cxOf]
    walk_at "g"
    refine ⟨l, at_, rfl, ha, hl, hdp, ?_⟩
    have hsf := inn_suf (n + 1) (l.drop at_)
    cases hin : inn (n + 1) (l.drop at_) with
    | bad r =>
      have e : leafR sh (inn (n + 1)) (l.drop at_) = .bad r := by
        unfold leafR copyR swapR hideR
        rw [hin]
        split
        · rfl
        · split <;> rfl
      rw [e] at q
      exact q
    | ok p r =>
      rw [hin] at hsf
      obtain ⟨t1, t2, t3⟩ := suf_drop (show Suf r (l.drop at_) from hsf)
      intro H1 tp v s1 htp dv
      walk_at "g"
      refine ⟨tp, _, rfl, htp, rfl, ?_⟩
      walk_at "g"
      rcases hsh with rfl | rfl | rfl
      · have e : leafR copyS (inn (n + 1)) (l.drop at_) = fin 125 (.copy p) r := by
          show (inn (n + 1) (l.drop at_)).bind _ = _
          rw [hin]
          rfl
        rw [e] at q
        rw [if_pos (by decide)]
        walk_at "g"
        refine Gx.newT (by simp) (fun tw H2 E2 => ?_)
        walk_at "g"
        refine ⟨l, l.length - r.length, 125, rfl, hl, fun u hu => ?_, fun hno d nd => ?_⟩
        · rw [t3] at hu
          rw [hu, fin_same] at q
          walk_at "g"
          refine Gx.newT (by simp) (fun tt H3 E3 => ?_)
          refine q H3 tt (.ref tw) ((s1.trans E2.same).trans E3.same) ?_ (.tup (E3.same.seqT (SqT.of E2.at_)) (.cons (.str _) (.cons (Gx.dp_same (E2.same.trans E3.same) _ _ dv) .nil)))
          rw [behind_len (t3.trans hu)]
          exact SqT.of E3.at_
        · rw [t3] at hno
          rw [fin_bad hno] at q
          exact q _ d ((s1.trans E2.same).trans (Gx.Same.put (Same.refl H2) nd)) (fresh_of (s1.trans E2.same) nd) upd_same
      · have e : leafR swapS (inn (n + 1)) (l.drop at_) = (fin 44 () r).bind fun _ u => (ren u).bind fun to v => fin 125 (.swap p to) v := by
          show (inn (n + 1) (l.drop at_)).bind _ = _
          rw [hin]
          rfl
        rw [e] at q
        rw [if_neg (by decide)]
        walk_at "g"
        refine ⟨l, l.length - r.length, 44, rfl, hl, fun u hu => ?_, fun hno d nd => ?_⟩
        · rw [t3] at hu
          rw [hu, fin_same, bind_E] at q
          obtain ⟨k1, k2, k3⟩ := suf_at (t3.trans hu)
          walk_at "g"
          rw [if_pos (by decide)]
          walk_at "g"
          refine ⟨l, l.length - r.length + 1, rfl, by omega, hl, ?_⟩
          rw [k2]
          have hrs := ren_suf u
          cases hrn : ren u with
          | bad x =>
            rw [hrn, bind_B] at q
            exact fun H' d s' nd hd => q H' d (s1.trans s') (fresh_of s1 nd) hd
          | ok to x =>
            rw [hrn, bind_E] at q
            rw [hrn] at hrs
            obtain ⟨rfl, rfl⟩ := ren_ok hrn
            obtain ⟨x1, x2, x3⟩ := suf_drop (l := l) (a := l.length - r.length + 1) (show Suf (spanD [] u).2 _ by rw [k2]; exact hrs)
            dsimp only
            walk_at "g"
            rw [Int.toNat_natCast, Int.toNat_natCast, piece (w := (spanD [] u).1) (by rw [k2]; exact spanD_suf u []) (by omega)]
            refine Gx.newT (by simp) (fun tw H2 E2 => ?_)
            walk_at "g"
            refine ⟨l, l.length - (spanD [] u).2.length, 125, rfl, hl, fun z hz => ?_, fun hno d nd => ?_⟩
            · rw [x3] at hz
              rw [hz, fin_same] at q
              walk_at "g"
              refine Gx.newT (by simp) (fun tt H3 E3 => ?_)
              refine q H3 tt (.ref tw) ((s1.trans E2.same).trans E3.same) ?_ (.tup (E3.same.seqT (SqT.of E2.at_)) (.cons (.str _) (.cons (Gx.dp_same (E2.same.trans E3.same) _ _ dv) (.cons (.str _) .nil))))
              rw [behind_len (x3.trans hz)]
              exact SqT.of E3.at_
            · rw [x3] at hno
              rw [fin_bad hno] at q
              exact q _ d ((s1.trans E2.same).trans (Gx.Same.put (Same.refl H2) nd)) (fresh_of (s1.trans E2.same) nd) upd_same
        · rw [t3] at hno
          rw [fin_bad hno, bind_B] at q
          exact q _ d (s1.trans (Gx.Same.put (Same.refl H1) nd)) (fresh_of s1 nd) upd_same
      · have e : leafR hideS (inn (n + 1)) (l.drop at_) = (fin 44 () r).bind fun _ u => (fin 44 () (spanS u).2).bind fun _ v => fin 125 (.hide p (spanS u).1 (spanS v).1) (spanS v).2 := by
          show (inn (n + 1) (l.drop at_)).bind _ = _
          rw [hin]
          rfl
        rw [e] at q
        rw [if_neg (by decide)]
        walk_at "g"
        refine ⟨l, l.length - r.length, 44, rfl, hl, fun u hu => ?_, fun hno d nd => ?_⟩
        · rw [t3] at hu
          rw [hu, fin_same, bind_E] at q
          obtain ⟨k1, k2, k3⟩ := suf_at (t3.trans hu)
          walk_at "g"
          rw [if_neg (by decide)]
          walk_at "g"
          refine ⟨l, l.length - r.length + 1, rfl, by omega, hl, ?_⟩
          rw [k2]
          obtain ⟨x1, x2, x3⟩ := suf_drop (l := l) (a := l.length - r.length + 1) (show Suf (spanS u).2 _ by rw [k2]; exact spanS_Suf u)
          walk_at "g"
          refine ⟨l, l.length - (spanS u).2.length, 44, rfl, hl, fun z hz => ?_, fun hno d nd => ?_⟩
          · rw [x3] at hz
            rw [hz, fin_same, bind_E] at q
            obtain ⟨m1, m2, m3⟩ := suf_at (x3.trans hz)
            walk_at "g"
            refine ⟨l, l.length - (spanS u).2.length + 1, rfl, by omega, hl, ?_⟩
            rw [m2]
            obtain ⟨y1, y2, y3⟩ := suf_drop (l := l) (a := l.length - (spanS u).2.length + 1) (show Suf (spanS z).2 _ by rw [m2]; exact spanS_Suf z)
            walk_at "g"
            rw [Int.toNat_natCast, Int.toNat_natCast, Int.toNat_natCast, Int.toNat_natCast, piece (w := (spanS u).1) (by rw [k2]; exact spanS_suf u) (by omega), piece (w := (spanS z).1) (by rw [m2]; exact spanS_suf z) (by omega)]
            refine Gx.newT (by simp) (fun tw H2 E2 => ?_)
            walk_at "g"
            refine ⟨l, l.length - (spanS z).2.length, 125, rfl, hl, fun y hy => ?_, fun hno d nd => ?_⟩
            · rw [y3] at hy
              rw [hy, fin_same] at q
              walk_at "g"
              refine Gx.newT (by simp) (fun tt H3 E3 => ?_)
              refine q H3 tt (.ref tw) ((s1.trans E2.same).trans E3.same) ?_ (.tup (E3.same.seqT (SqT.of E2.at_)) (.cons (.str _) (.cons (Gx.dp_same (E2.same.trans E3.same) _ _ dv) (.cons (.str _) (.cons (.str _) .nil)))))
              rw [behind_len (y3.trans hy)]
              exact SqT.of E3.at_
            · rw [y3] at hno
              rw [fin_bad hno] at q
              exact q _ d ((s1.trans E2.same).trans (Gx.Same.put (Same.refl H2) nd)) (fresh_of (s1.trans E2.same) nd) upd_same
          · rw [x3] at hno
            rw [fin_bad hno, bind_B] at q
            exact q _ d (s1.trans (Gx.Same.put (Same.refl H1) nd)) (fresh_of s1 nd) upd_same
        · rw [t3] at hno
          rw [fin_bad hno, bind_B] at q
          exact q _ d (s1.trans (Gx.Same.put (Same.refl H1) nd)) (fresh_of s1 nd) upd_same
end
end K13
namespace K13
open PySem PySem.Spec PyProof.Rows L2
local macro_rules | `(tactic| walk_at "con") => `(tactic| first | with_reducible refine Gx.conE K13.ks0 ?_ | with_reducible refine Gx.conE K13.ks1 ?_ | with_reducible refine Gx.conE K13.ks2 ?_ | with_reducible refine Gx.conE K13.ks3 ?_ | with_reducible refine Gx.conE K13.ks4 ?_ | with_reducible refine Gx.conE K13.ks5 ?_ | with_reducible refine Gx.conE K13.ks6 ?_ | with_reducible refine Gx.conE K13.ks7 ?_ | with_reducible refine Gx.conE K13.ks8 ?_ | with_reducible refine Gx.conE K13.ks9 ?_ | with_reducible refine Gx.conE K13.ks10 ?_ | with_reducible refine Gx.conE K13.ks11 ?_ | with_reducible refine Gx.conE K13.ks12 ?_ | with_reducible refine Gx.conE K13.ks13 ?_ | with_reducible refine Gx.conE K13.ks14 ?_ | with_reducible refine Gx.conE K13.ks15 ?_ | with_reducible refine Gx.conE K13.ks16 ?_ | with_reducible refine Gx.conE K13.ks17 ?_ | with_reducible refine Gx.conE K13.ks18 ?_ | with_reducible refine Gx.conE K13.ks19 ?_ | with_reducible refine Gx.conE K13.ks20 ?_ | with_reducible refine Gx.conE K13.ks21 ?_ | with_reducible refine Gx.conE K13.ks22 ?_ | with_reducible refine Gx.conE K13.ks23 ?_ | with_reducible refine Gx.conE K13.ks24 ?_ | with_reducible refine Gx.conE K13.ks25 ?_ | with_reducible refine Gx.conE K13.ks26 ?_ | with_reducible refine Gx.conE K13.ks27 ?_ | with_reducible refine Gx.conE K13.ks28 ?_ | with_reducible refine Gx.conE K13.ks29 ?_ | with_reducible refine Gx.conE K13.ks30 ?_ | with_reducible refine Gx.conE K13.ks31 ?_ | with_reducible refine Gx.conE K13.ks32 ?_ | with_reducible refine Gx.conE K13.ks33 ?_ | with_reducible refine Gx.conE K13.ks34 ?_ | with_reducible refine Gx.conE K13.ks35 ?_ | with_reducible refine Gx.conE K13.ks36 ?_ | with_reducible refine Gx.conE K13.ks37 ?_ | with_reducible refine Gx.conE K13.ks38 ?_ | with_reducible refine Gx.conE K13.ks39 ?_ | with_reducible refine Gx.conE K13.ks40 ?_ | with_reducible refine Gx.conE K13.ks41 ?_ | with_reducible refine Gx.conE K13.ks42 ?_ | with_reducible refine Gx.conE K13.ks43 ?_ | with_reducible refine Gx.conE K13.ks44 ?_ | with_reducible refine Gx.conE K13.ks45 ?_ | with_reducible refine Gx.conE K13.ks46 ?_ | with_reducible refine Gx.conE K13.ks47 ?_ | with_reducible refine Gx.conE K13.ks48 ?_ | with_reducible refine Gx.conE K13.ks49 ?_ | with_reducible refine Gx.conE K13.ks50 ?_ | with_reducible refine Gx.conE K13.ks51 ?_ | with_reducible refine Gx.conE K13.ks52 ?_ | with_reducible refine Gx.conE K13.ks53 ?_ | with_reducible refine Gx.conE K13.ks54 ?_ | with_reducible refine Gx.conE K13.ks55 ?_ | with_reducible refine Gx.conE K13.ks56 ?_ | with_reducible refine Gx.conE K13.ks57 ?_ | with_reducible refine Gx.conE K13.ks58 ?_ | with_reducible refine Gx.conE K13.ks59 ?_ | with_reducible refine Gx.conE K13.ks60 ?_ | with_reducible refine Gx.conE K13.ks61 ?_ | with_reducible refine Gx.conE K13.ks62 ?_ | with_reducible refine Gx.conE K13.ks63 ?_)
section
variable {P : Program} {w : World} {K : PySem.W.Frag} {mg : Str → Option Value} {base : Heap}
theorem op_cases {u : List Nat} (h : u ∈ opL) : (u.dropLast ∈ leafL ∧ (u.dropLast = copyS ∨ u.dropLast = swapS ∨ u.dropLast = hideS) ∧ (∀ (I : List Nat → Rs Pat) (L : List Nat → Rs Ln) (r : List Nat), bodyR I L u r = leafR u.dropLast I r) ∧ ∀ r, dep (u ++ r) = dep r) ∨ u = againO ∨ ∃ k, k < 4 ∧ u = twoO k := by
  unfold opL at h
  simp only [List.mem_cons, List.not_mem_nil, or_false] at h
  rcases h with rfl | rfl | rfl | rfl | rfl | rfl | rfl | rfl
  · exact .inl ⟨by decide, .inl rfl, fun _ _ _ => rfl, fun _ => rfl⟩
  · exact .inl ⟨by decide, .inr (.inr rfl), fun _ _ _ => rfl, fun _ => rfl⟩
  · exact .inl ⟨by decide, .inr (.inl rfl), fun _ _ _ => rfl, fun _ => rfl⟩
  · exact .inr (.inr ⟨0, by decide, rfl⟩)
  · exact .inr (.inr ⟨1, by decide, rfl⟩)
  · exact .inr (.inr ⟨2, by decide, rfl⟩)
  · exact .inr (.inr ⟨3, by decide, rfl⟩)
  · exact .inr (.inl rfl)
def spLn (K : PySem.W.Frag) (B : Addr) : Nat → Sp
  | 0 => fun _ _ _ _ => False
  | n + 1 => fun vs H Q E => ∃ (l : List Nat) (at_ : Nat), vs = [.str (Gx.mkS l), .int (at_ : Nat)] ∧ at_ ≤ l.length ∧ l.length ≤ 100000 ∧ dep (l.drop at_) ≤ n ∧ PRa K B l lnD (rdLn (n + 1) (l.drop at_)) H Q E
theorem slSm1 {u : List Nat} {H : Hp} {Q : VK} (hu : u.length ≤ 16777216) (q : Q (.str (Gx.mkS u.dropLast)) H) : rSlS (.str (Gx.mkS u)) none (some (-1)) H Q := by
  refine ⟨_, rfl, by rw [Gx.mkS_len, sizeLine_eq]; exact hu, ?_⟩
  have e : cutS (Gx.mkS u) none (some (-1)) = Gx.mkS u.dropLast := by
    show Gx.mkS (((Gx.mkS u).cps.toList.drop _).take _) = _
    rw [Gx.mkS_tl, Gx.mkS_len, HT.sIx_none, List.drop_zero, Nat.sub_zero, List.dropLast_eq_take]
    congr 2
    show ((-1 : Int) + (u.length : Int)).toNat = _
    omega
  rw [e]
  exact q
set_option maxHeartbeats 8000000 in
theorem G_lens_at1 (T : Txt K mg w) {n : Nat} (G_lens_at : FnOk P w K mg base (L2.CX P w) (4 * n + 6) T.f_lens_at T.fd_lens_at ["text", "at"] (spLn K T.a_BadText n)) : FnOk P w K mg base (L2.CX P w) (4 * n + 10) T.f_lens_at T.fd_lens_at ["text", "at"] (spLn K T.a_BadText (n + 1)) := by
  have G_opener_at := G_opener_at (P := P) (w := w) (base := base) T
  have G_leaf_at := G_leaf_at (P := P) (w := w) (base := base) T n
  have G_behind := G_behind (P := P) (w := w) (base := base) T
  refine T.F_lens_at.okX sc_lens_at (fun vs H Q E h => ?_) (fun cdv A outer s H vs Q E hr h => ?_)
  · obtain ⟨l, at_, rfl, _⟩ := h
    rfl
  · obtain ⟨l, at_, rfl, ha, hl, hdp, q⟩ := h
    refine ⟨_, ((pss_cons (ps_set (i := 2) sc_lens_at.nd rfl (Or.inl rfl) (pe_call G_opener_at (hr.mono (by first | decide | omega)) (by rfl) T.g_opener_at T.F_opener_at.kp T.b_opener_at .nil (passes_call (takes_of rfl rfl rfl rfl) (fun _ _ _ _ h => h)) (pa_cons (pv 0) (pa_cons (pv 1) pa_nil))))
  (pss_cons (ps_set (i := 3) sc_lens_at.nd rfl (Or.inl rfl) (pe_slice sl_str (pv 2) po_none (po_some (pe_un un_neg pe_int))))
  (pss_cons (ps_set (i := 1) sc_lens_at.nd rfl (Or.inl rfl) (pe_op op_add (pv 1) (pe_callB Gx.cr_lenS (by rfl) T.z_len bt_len (pa_cons (pv 2) pa_nil))))
  (pss_cons (ps_if (pt_cmpR op_in_seq (pv 3) (pe_glob (v := .ref T.a_LEAVES) rfl T.g_LEAVES rfl) rfl)
  (pss_one (ps_ret (pe_call G_leaf_at (hr.mono (by first | decide | omega)) (by rfl) T.g_leaf_at T.F_leaf_at.kp T.b_leaf_at .nil (passes_call (takes_of rfl rfl rfl rfl) (fun _ _ _ _ h => h)) (pa_cons (pv 0) (pa_cons (pv 1) (pa_cons (pv 3) pa_nil))))))
  pss_nil)
  (pss_cons (ps_asg (pe_call G_lens_at (hr.mono (by first | decide | omega)) (by rfl) T.g_lens_at T.F_lens_at.kp T.b_lens_at .nil (passes_call (takes_of rfl rfl rfl rfl) (fun _ _ _ _ h => h)) (pa_cons (pv 0) (pa_cons (pv 1) pa_nil))) (pg_tup rfl (pgs_cons (pg_name (i := 4) sc_lens_at.nd rfl (Or.inl rfl)) (pgs_cons (pg_name (i := 1) sc_lens_at.nd rfl (Or.inl rfl)) pgs_nil))))
  (pss_cons (ps_set (i := 5) sc_lens_at.nd rfl (Or.inl rfl) (pe_lst (pa_cons (pv 4) pa_nil)))
  (C8.pss_cut (ps_if (pt_cmpR op_ne (pv 3) pe_str (nomark _))
  (pss_cons (ps_asg (pe_call G_lens_at (hr.mono (by first | decide | omega)) (by rfl) T.g_lens_at T.F_lens_at.kp T.b_lens_at .nil (passes_call (takes_of rfl rfl rfl rfl) (fun _ _ _ _ h => h)) (pa_cons (pv 0) (pa_cons (pe_call G_behind (hr.mono (by first | decide | omega)) (by rfl) T.g_behind T.F_behind.kp T.b_behind .nil (passes_call (takes_of rfl rfl rfl rfl) (fun _ _ _ _ h => h)) (pa_cons (pv 0) (pa_cons (pv 1) (pa_cons pe_str pa_nil)))) pa_nil))) (pg_tup rfl (pgs_cons (pg_name (i := 4) sc_lens_at.nd rfl (Or.inl rfl)) (pgs_cons (pg_name (i := 1) sc_lens_at.nd rfl (Or.inl rfl)) pgs_nil))))
  (pss_one (ps_expr (pe_bm PySem.F.plainAttrs_list PySem.F.slot_list_append PySem.F.type_list_append mt_append (pv 5) (pa_cons (pv 4) pa_nil)))))
  pss_nil)
  (pss_one (ps_ret (pe_tup (pa_cons (pe_op op_catA (pe_tup (pa_cons (pv 3) pa_nil)) (pe_callTy Gx.cr_tupL (by rfl) T.z_tuple bt_tuple (pa_cons (pv 5) pa_nil))) (pa_cons (pe_call G_behind (hr.mono (by first | decide | omega)) (by rfl) T.g_behind T.F_behind.kp T.b_behind .nil (passes_call (takes_of rfl rfl rfl rfl) (fun _ _ _ _ h => h)) (pa_cons (pv 0) (pa_cons (pv 1) (pa_cons pe_str pa_nil)))) pa_nil))))))))))))), ?_⟩
    clear G_opener_at G_leaf_at G_behind G_lens_at
    rw [st_lens_at]
    try dsimp only [cxOf]
    walk_at "g"
    refine ⟨l, at_, rfl, ha, hl, ?_⟩
    have e0 : rdLn (n + 1) (l.drop at_) = (opn (l.drop at_)).bind (bodyR (inn (n + 1)) (rdLn n)) := rfl
    rw [e0] at q
    have hsf := opnL_suf opL 0 (l.drop at_)
    cases hop : opn (l.drop at_) with
    | bad r =>
      rw [hop] at q
      exact q
    | ok u r =>
      rw [hop, bind_E] at q
      obtain ⟨hu, hur⟩ := opnL_ok _ _ _ _ _ hop
      have hul := opL_len u hu
      have hlen := congrArg List.length hur
      rw [List.length_drop, List.length_append] at hlen
      have hdr : l.drop (at_ + u.length) = r := by rw [← List.drop_drop, hur, List.drop_left]
      dsimp only
      walk_at "g"
      refine slSm1 (by omega) ?_
      walk_at "g"
      refine inLeaf T ?_
      walk_at "g"
      rcases op_cases hu with ⟨c1, c2, c3, c4⟩ | hnode
      · rw [decide_eq_true c1]
        walk_at "g"
        refine ⟨l, at_ + u.length, u.dropLast, rfl, by omega, hl, ?_, c2, ?_⟩
        · rw [hdr, ← c4 r, ← hur]
          exact hdp
        · rw [hdr, ← c3 (inn (n + 1)) (rdLn n) r]
          exact q
      have hn : u.dropLast ∉ leafL := by
        rcases hnode with rfl | ⟨k, hk, rfl⟩
        · decide
        · rw [show (twoO k).dropLast = twoS k by unfold twoO; simp]
          exact twoS_leaf k
      have hdr1 : dep r + 1 ≤ n := by
        rw [hur] at hdp
        rcases hnode with rfl | ⟨k, hk, rfl⟩
        · exact hdp
        · match k, hk with
          | 0, _ => exact hdp
          | 1, _ => exact hdp
          | 2, _ => exact hdp
          | 3, _ => exact hdp
      rw [decide_eq_false hn]
      walk_at "g"
      cases n with
      | zero => omega
      | succ n =>
        have hsf1 := rdLn_suf (n + 1) r
        have hdn1 := rdLn_dn (n + 1) r
        refine ⟨l, at_ + u.length, rfl, by omega, hl, by rw [hdr]; omega, ?_⟩
        rw [hdr]
        cases hrd : rdLn (n + 1) r with
        | bad x =>
          have e : bodyR (inn (n + 2)) (rdLn (n + 1)) u r = .bad x := by
            rcases hnode with rfl | ⟨k, hk, rfl⟩
            · show (rdLn (n + 1) r).bind _ = _
              rw [hrd, bind_B]
            · rw [body_two hk]
              show (rdLn (n + 1) r).bind _ = _
              rw [hrd, bind_B]
          rw [e] at q
          exact q
        | ok t x =>
          rw [hrd] at hsf1 hdn1
          obtain ⟨t1, t2, t3⟩ := suf_drop (l := l) (a := at_ + u.length) (show Suf x _ by rw [hdr]; exact hsf1)
          intro H1 tp v s1 htp dv
          walk_at "g"
          refine ⟨tp, _, rfl, htp, rfl, ?_⟩
          walk_at "g"
          refine Gx.newL (by simp) (fun F H2 E2 => ?_)
          walk_at "g"
          have s2 := s1.trans E2.same
          rcases hnode with rfl | ⟨k, hk, rfl⟩
          · have e : bodyR (inn (n + 2)) (rdLn (n + 1)) againO r = fin 41 (.again t) x := by
              show (rdLn (n + 1) r).bind _ = _
              rw [hrd, bind_E]
            rw [e] at q
            refine ⟨fun σ' H' => H' = H2 ∧ σ' = [some (.str (Gx.mkS l)), some (.int (l.length - x.length : Nat)), some (.str (Gx.mkS againO)), some (.str (Gx.mkS againS)), some v, some (.ref F)], ?_, ?_⟩
            · walk_at "g"
              rw [show (!decide (againO.dropLast = [97, 103, 97, 105, 110])) = false by decide]
              walk_at "g"
              exact ⟨rfl, rfl⟩
            · rintro σ' H' ⟨rfl, rfl⟩
              walk_at "g"
              refine Gx.newT (by simp) (fun w1 H3 E3 => ?_)
              walk_at "g"
              refine Gx.tupL (E3.same.seq (SqL.of E2.at_)) (fun w2 n2 => ?_)
              have E4 := Gx.ext1 (o := .tup [v]) n2
              refine Gx.catA (E4.same.seqT (SqT.of E3.at_)) (SqT.of upd_same) (by simp) (fun w3 H5 s5 h5 => ?_)
              have s6 := E3.same.trans (E4.same.trans s5)
              walk_at "g"
              refine ⟨l, l.length - x.length, 41, rfl, hl, fun z hz => ?_, fun hno d nd => ?_⟩
              · rw [t3] at hz
                rw [hz, fin_same] at q
                walk_at "g"
                refine Gx.newT (by simp) (fun tt H6 E6 => ?_)
                refine q H6 tt (.ref w3) ((s2.trans s6).trans E6.same) ?_ (.tup (E6.same.seqT h5) (.cons (.str _) (.cons (Gx.dp_same (E2.same.trans (s6.trans E6.same)) _ _ dv) .nil)))
                rw [behind_len (t3.trans hz)]
                exact SqT.of E6.at_
              · rw [t3] at hno
                rw [fin_bad hno] at q
                exact q _ d ((s2.trans s6).trans (Gx.Same.put (Same.refl H5) nd)) (fresh_of (s2.trans s6) nd) upd_same
          · have hsh : (twoO k).dropLast = twoS k := by unfold twoO; simp
            have hsa : twoS k ≠ [97, 103, 97, 105, 110] := by
              match k, hk with
              | 0, _ => decide
              | 1, _ => decide
              | 2, _ => decide
              | 3, _ => decide
            have e : bodyR (inn (n + 2)) (rdLn (n + 1)) (twoO k) r = (fin 44 () x).bind fun _ v => (rdLn (n + 1) v).bind fun x y => fin 41 (.two k t x) y := by
              rw [body_two hk]
              show (rdLn (n + 1) r).bind _ = _
              rw [hrd, bind_E]
            rw [e] at q
            rw [hsh]
            have nF : H1 F = none := E2.fresh
            refine ⟨fun σ' H' => ∃ (v2 : V) (t5 : Ln) (x5 : List Nat), Same H1 H' ∧ H' F = some (.lst [v, v2]) ∧ Dp K H' v2 (lnD t5) ∧ l.drop (l.length - x5.length) = x5 ∧ PRa K T.a_BadText l lnD (fin 41 (.two k t t5) x5) H Q E ∧ σ' = [some (.str (Gx.mkS l)), some (.int (l.length - x5.length : Nat)), some (.str (Gx.mkS (twoO k))), some (.str (Gx.mkS (twoS k))), some v2, some (.ref F)], ?_, ?_⟩
            · walk_at "g"
              rw [decide_eq_false hsa]
              walk_at "g"
              refine ⟨l, l.length - x.length, 44, rfl, hl, fun z hz => ?_, fun hno d nd => ?_⟩
              · rw [t3] at hz
                rw [hz, fin_same, bind_E] at q
                obtain ⟨k1, k2, k3⟩ := suf_at (t3.trans hz)
                have hdz : dep z ≤ n := by
                  have h1 : dep x ≤ dep r := hdn1
                  rw [hz, dep_ne _ (by decide) (by decide)] at h1
                  omega
                walk_at "g"
                refine ⟨l, l.length - x.length + 1, rfl, by omega, hl, by rw [k2]; exact hdz, ?_⟩
                rw [k2]
                have hsf2 := rdLn_suf (n + 1) z
                cases hrd2 : rdLn (n + 1) z with
                | bad y =>
                  rw [hrd2, bind_B] at q
                  exact fun H' d s' nd hd => q H' d (s2.trans s') (fresh_of s2 nd) hd
                | ok t5 x5 =>
                  rw [hrd2, bind_E] at q
                  rw [hrd2] at hsf2
                  obtain ⟨y1, y2, y3⟩ := suf_drop (l := l) (a := l.length - x.length + 1) (show Suf x5 _ by rw [k2]; exact hsf2)
                  intro H4 tp2 v2 s4 htp2 dv2
                  have eF4 := s4 _ _ E2.at_
                  walk_at "g"
                  refine ⟨tp2, _, rfl, htp2, rfl, ?_⟩
                  walk_at "g"
                  have dd := Gx.dp_tups (Gx.Tups.upd (ys := [v] ++ [v2]) eF4) (lnD t5) v2 (noL_ln t5) dv2
                  refine Gx.app eF4 (by rw [sizeLine_eq]; simp) ?_
                  exact ⟨v2, t5, x5, Gx.Same.put (E2.same.trans s4) nF, upd_same, dd, y3, q, rfl⟩
              · rw [t3] at hno
                rw [fin_bad hno, bind_B] at q
                exact q _ d (s2.trans (Gx.Same.put (Same.refl H2) nd)) (fresh_of s2 nd) upd_same
            · rintro σ' H' ⟨v2, t5, x5, s', eF, dv2, y3, q', rfl⟩
              have s2' := s1.trans s'
              walk_at "g"
              refine Gx.newT (by simp) (fun w1 H3 E3 => ?_)
              walk_at "g"
              refine Gx.tupL (E3.same.seq (SqL.of eF)) (fun w2 n2 => ?_)
              have E4 := Gx.ext1 (o := .tup [v, v2]) n2
              refine Gx.catA (E4.same.seqT (SqT.of E3.at_)) (SqT.of upd_same) (by simp) (fun w3 H5 s5 h5 => ?_)
              have s6 := E3.same.trans (E4.same.trans s5)
              walk_at "g"
              refine ⟨l, l.length - x5.length, 41, rfl, hl, fun z hz => ?_, fun hno d nd => ?_⟩
              · rw [y3] at hz
                rw [hz, fin_same] at q'
                walk_at "g"
                refine Gx.newT (by simp) (fun tt H6 E6 => ?_)
                refine q' H6 tt (.ref w3) ((s2'.trans s6).trans E6.same) ?_ (.tup (E6.same.seqT h5) (.cons (.str _) (.cons (Gx.dp_same (s'.trans (s6.trans E6.same)) _ _ dv) (.cons (Gx.dp_same (s6.trans E6.same) _ _ dv2) .nil))))
                rw [behind_len (y3.trans hz)]
                exact SqT.of E6.at_
              · rw [y3] at hno
                rw [fin_bad hno] at q'
                exact q' _ d ((s2'.trans s6).trans (Gx.Same.put (Same.refl H5) nd)) (fresh_of (s2'.trans s6) nd) upd_same
theorem G_lens_at (T : Txt K mg w) : ∀ n, FnOk P w K mg base (L2.CX P w) (4 * n + 6) T.f_lens_at T.fd_lens_at ["text", "at"] (spLn K T.a_BadText n)
  | 0 => ⟨fun _ _ _ _ h => h.elim, fun _ _ _ _ _ _ _ _ _ _ _ _ _ h => h.elim⟩
  | n + 1 => G_lens_at1 T (G_lens_at T n)
/-- read_lens: n brackets deep at most -/
def spReadL (K : PySem.W.Frag) (B : Addr) (n : Nat) : Sp := fun vs H Q E => ∃ (l : List Nat), vs = [.str (Gx.mkS l)] ∧ l.length ≤ 100000 ∧ dep l ≤ n ∧ (match readL (n + 1) l with
    | .ok p _ => ∀ H' v, Same H H' → Dp K H' v (lnD p) → Q v H'
    | .bad r => ∀ H' d, Same H H' → H d = none → H' d = some (xdOf (l.length - r.length)) → E (.ref B) (some d) H')
theorem G_read_lens (T : Txt K mg w) (n : Nat) : FnOk P w K mg base (L2.CX P w) (4 * n + 11) T.f_read_lens T.fd_read_lens ["text"] (spReadL K T.a_BadText n) := by
  have G_lens_at := G_lens_at (P := P) (w := w) (base := base) T (n + 1)
  have G_BadText_init := G_BadText_init (P := P) (w := w) (base := base) T
  refine T.F_read_lens.okX sc_read_lens (fun vs H Q E h => ?_) (fun cdv A outer s H vs Q E hr h => ?_)
  · obtain ⟨l, rfl, _⟩ := h
    rfl
  · obtain ⟨l, rfl, hl, hc, q⟩ := h
    refine ⟨_, ((pss_cons (ps_asg (pe_call G_lens_at (hr.mono (by first | decide | omega)) (by rfl) T.g_lens_at T.F_lens_at.kp T.b_lens_at .nil (passes_call (takes_of rfl rfl rfl rfl) (fun _ _ _ _ h => h)) (pa_cons (pv 0) (pa_cons pe_int pa_nil))) (pg_tup rfl (pgs_cons (pg_name (i := 1) sc_read_lens.nd rfl (Or.inl rfl)) (pgs_cons (pg_name (i := 2) sc_read_lens.nd rfl (Or.inl rfl)) pgs_nil))))
  (pss_cons (ps_if (pt_cmpR op_lt (pv 2) (pe_callB Gx.cr_lenS (by rfl) T.z_len bt_len (pa_cons (pv 0) pa_nil)) (nomark _))
  (pss_one (ps_raise rfl (takes_of rfl rfl rfl rfl) (pmk_oex T.o_BadText T.oi_BadText T.ot_BadText G_BadText_init (hr.mono (by first | decide | omega)) T.b_BadText_init .nil pass0 rfl T.g_BadText (pa_cons (pv 2) pa_nil))))
  pss_nil)
  (pss_one (ps_ret (pv 1)))))), ?_⟩
    clear G_lens_at G_BadText_init
    rw [st_read_lens]
    try dsimp only [cxOf]
    walk_at "g"
    refine ⟨l, 0, rfl, by omega, hl, by rw [List.drop_zero]; exact hc, ?_⟩
    rw [List.drop_zero]
    have hsf := rdLn_suf (n + 1) l
    unfold readL at q
    cases hin : rdLn (n + 1) l with
    | bad r => rw [hin] at q; exact q
    | ok p r =>
      rw [hin] at q hsf
      have hlen := Suf.len hsf
      intro H1 t v s1 ht dv
      walk_at "g"
      refine ⟨t, _, rfl, ht, rfl, ?_⟩
      walk_at "g"
      cases r with
      | nil =>
        refine Gx.iteD (fun h => by simp at h) (fun h => ?_)
        walk_at "g"
        exact q H1 v s1 dv
      | cons c r =>
        rw [List.length_cons] at hlen
        refine Gx.iteD (fun h => ?_) (fun h => absurd (by rw [List.length_cons]; omega) h)
        refine Gx.mkO ?_ ?_
        · walk_at "g"
          exact ⟨_, rfl, fun d nd => q _ d (s1.trans (Gx.Same.put (Same.refl H1) nd)) (fresh_of s1 nd) upd_same⟩
        · rintro Q1 Q2 h12 ⟨v, e, h⟩
          exact ⟨v, e, h12 _ _ h⟩
end
end K13
namespace K13
open PySem PySem.Spec PyProof.Rows L2
local macro_rules | `(tactic| walk_at "con") => `(tactic| first | with_reducible refine Gx.conE K13.ks0 ?_ | with_reducible refine Gx.conE K13.ks1 ?_ | with_reducible refine Gx.conE K13.ks2 ?_ | with_reducible refine Gx.conE K13.ks3 ?_ | with_reducible refine Gx.conE K13.ks4 ?_ | with_reducible refine Gx.conE K13.ks5 ?_ | with_reducible refine Gx.conE K13.ks6 ?_ | with_reducible refine Gx.conE K13.ks7 ?_ | with_reducible refine Gx.conE K13.ks8 ?_ | with_reducible refine Gx.conE K13.ks9 ?_ | with_reducible refine Gx.conE K13.ks10 ?_ | with_reducible refine Gx.conE K13.ks11 ?_ | with_reducible refine Gx.conE K13.ks12 ?_ | with_reducible refine Gx.conE K13.ks13 ?_ | with_reducible refine Gx.conE K13.ks14 ?_ | with_reducible refine Gx.conE K13.ks15 ?_ | with_reducible refine Gx.conE K13.ks16 ?_ | with_reducible refine Gx.conE K13.ks17 ?_ | with_reducible refine Gx.conE K13.ks18 ?_ | with_reducible refine Gx.conE K13.ks19 ?_ | with_reducible refine Gx.conE K13.ks20 ?_ | with_reducible refine Gx.conE K13.ks21 ?_ | with_reducible refine Gx.conE K13.ks22 ?_ | with_reducible refine Gx.conE K13.ks23 ?_ | with_reducible refine Gx.conE K13.ks24 ?_ | with_reducible refine Gx.conE K13.ks25 ?_ | with_reducible refine Gx.conE K13.ks26 ?_ | with_reducible refine Gx.conE K13.ks27 ?_ | with_reducible refine Gx.conE K13.ks28 ?_ | with_reducible refine Gx.conE K13.ks29 ?_ | with_reducible refine Gx.conE K13.ks30 ?_ | with_reducible refine Gx.conE K13.ks31 ?_ | with_reducible refine Gx.conE K13.ks32 ?_ | with_reducible refine Gx.conE K13.ks33 ?_ | with_reducible refine Gx.conE K13.ks34 ?_ | with_reducible refine Gx.conE K13.ks35 ?_ | with_reducible refine Gx.conE K13.ks36 ?_ | with_reducible refine Gx.conE K13.ks37 ?_ | with_reducible refine Gx.conE K13.ks38 ?_ | with_reducible refine Gx.conE K13.ks39 ?_ | with_reducible refine Gx.conE K13.ks40 ?_ | with_reducible refine Gx.conE K13.ks41 ?_ | with_reducible refine Gx.conE K13.ks42 ?_ | with_reducible refine Gx.conE K13.ks43 ?_ | with_reducible refine Gx.conE K13.ks44 ?_ | with_reducible refine Gx.conE K13.ks45 ?_ | with_reducible refine Gx.conE K13.ks46 ?_ | with_reducible refine Gx.conE K13.ks47 ?_ | with_reducible refine Gx.conE K13.ks48 ?_ | with_reducible refine Gx.conE K13.ks49 ?_ | with_reducible refine Gx.conE K13.ks50 ?_ | with_reducible refine Gx.conE K13.ks51 ?_ | with_reducible refine Gx.conE K13.ks52 ?_ | with_reducible refine Gx.conE K13.ks53 ?_ | with_reducible refine Gx.conE K13.ks54 ?_ | with_reducible refine Gx.conE K13.ks55 ?_ | with_reducible refine Gx.conE K13.ks56 ?_ | with_reducible refine Gx.conE K13.ks57 ?_ | with_reducible refine Gx.conE K13.ks58 ?_ | with_reducible refine Gx.conE K13.ks59 ?_ | with_reducible refine Gx.conE K13.ks60 ?_ | with_reducible refine Gx.conE K13.ks61 ?_ | with_reducible refine Gx.conE K13.ks62 ?_ | with_reducible refine Gx.conE K13.ks63 ?_)
section
variable {P : Program} {w : World} {K : PySem.W.Frag} {mg : Str → Option Value} {base : Heap}
def mix (cell k : Int) : Int :=
  ((((cell * 48271 + k * 7919 + 101) % 2147483647) * ((cell * 48271 + k * 7919 + 101) % 2147483647) + 31 * ((cell * 48271 + k * 7919 + 101) % 2147483647) + k * k * 17) % 1000000007 * 69621 + 5) % 2147483647 / 7
def sp_mix : Sp := fun vs H Q _ => ∃ (c k : Int), vs = [.int c, .int k] ∧ 0 ≤ k ∧ k < 10000 ∧ Q (.int (mix c k)) H
theorem G__law_mix (T : Txt K mg w) : FnOk P w K mg base CX0 1 T.f__law_mix T.fd__law_mix ["cell", "k"] sp_mix := by
  refine T.F__law_mix.ok sc__law_mix (fun vs H Q E h => ?_) (fun cdv A outer s H vs Q E hr h => ?_)
  · obtain ⟨c, k, rfl, _⟩ := h
    rfl
  · obtain ⟨c, k, rfl, h0, h1, q⟩ := h
    refine ⟨_, ((pss_cons (ps_set (i := 2) sc__law_mix.nd rfl (Or.inl rfl) (pe_op op_mod (pe_op op_add (pe_op op_add (pe_op op_mul (pe_callTy Gx.cr_int1 (by rfl) T.z_int bt_int (pa_cons (pv 0) pa_nil)) pe_int) (pe_op op_mul (pv 1) pe_int)) pe_int) pe_int))
  (pss_cons (ps_set (i := 3) sc__law_mix.nd rfl (Or.inl rfl) (pe_op op_mod (pe_op op_add (pe_op op_add (pe_op op_mul (pv 2) (pv 2)) (pe_op op_mul pe_int (pv 2))) (pe_op op_mul (pe_op op_mul (pv 1) (pv 1)) pe_int)) pe_int))
  (pss_one (ps_ret (pe_op op_fdiv (pe_op op_mod (pe_op op_add (pe_op op_mul (pv 3) pe_int) pe_int) pe_int) pe_int)))))), ?_⟩
    rw [st__law_mix]
    walk_at "g"
    exact q
/-- a digit -/
def Dig (xs : List Int) : Prop := ∀ x ∈ xs, 0 ≤ x ∧ x < 60
theorem Dig.snoc {xs : List Int} {z : Int} (h : Dig xs) (a : 0 ≤ z) (b : z < 60) : Dig (xs ++ [z]) := fun x hx => by
  rcases List.mem_append.mp hx with h1 | h1
  · exact h x h1
  · cases List.mem_singleton.mp h1
    exact ⟨a, b⟩
def sp_stream (K : PySem.W.Frag) : Sp := fun vs H Q _ => ∃ (a : Addr) (ns : List Int) (many : Int), vs = [.ref a, .int many] ∧ SqL K H a (ns.map V.int) ∧ ns.length ≤ 63 ∧ 0 ≤ many ∧ many ≤ 1000 ∧
  ∀ H' p xs, Same H H' → H p = none → H' p = some (.lst (xs.map V.int)) → (xs.length : Int) = many → Dig xs → Q (.ref p) H'
theorem G__law_stream (T : Txt K mg w) : FnOk P w K mg base CX0 2 T.f__law_stream T.fd__law_stream ["script", "many"] (sp_stream K) := by
  have G__law_mix := G__law_mix (P := P) (w := w) (base := base) T
  refine T.F__law_stream.ok sc__law_stream (fun vs H Q E h => ?_) (fun cdv A outer s H vs Q E hr h => ?_)
  · obtain ⟨a, ns, many, rfl, _⟩ := h
    rfl
  · obtain ⟨a, ns, many, rfl, hS, hlen, h0, h1, q⟩ := h
    refine ⟨_, ((pss_cons (ps_set (i := 2) sc__law_stream.nd rfl (Or.inl rfl) pe_int)
  (C8.pss_cut (ps_if (pt_cmpR op_gt (pe_callB Gx.cr_lenQ (by rfl) T.z_len bt_len (pa_cons (pv 0) pa_nil)) pe_int (nomark _))
  (pss_one (ps_set (i := 2) sc__law_stream.nd rfl (Or.inl rfl) (pe_callB Gx.cr_abs (by rfl) T.z_abs bt_abs (pa_cons (pe_callTy Gx.cr_int1 (by rfl) T.z_int bt_int (pa_cons (pe_ix ix_list (pv 0) pe_int (fun _ _ => rfl)) pa_nil)) pa_nil))))
  pss_nil)
  (C8.pss_cut (ps_if (pt_cmpR op_lt (pv 2) (pe_op op_pow pe_int pe_int) (nomark _))
  (pss_one (ps_set (i := 2) sc__law_stream.nd rfl (Or.inl rfl) pe_int))
  pss_nil)
  (pss_cons (ps_set (i := 3) sc__law_stream.nd rfl (Or.inl rfl) (pe_lst pa_nil))
  (pss_cons (ps_for PassesOwn.never rfl (pi_range1 rfl T.z_range (pa_cons (pv 1) pa_nil)) (pg_name (i := 4) sc__law_stream.nd rfl (Or.inl rfl))
  (pss_one (ps_if (pt_cmpR op_gt (pv 2) pe_int (nomark _))
  (pss_cons (ps_expr (pe_bm PySem.F.plainAttrs_list PySem.F.slot_list_append PySem.F.type_list_append mt_append (pv 3) (pa_cons (pe_op op_mod (pv 2) pe_int) pa_nil)))
  (pss_one (ps_set (i := 2) sc__law_stream.nd rfl (Or.inl rfl) (pe_op op_fdiv (pv 2) pe_int))))
  (pss_cons (ps_set (i := 5) sc__law_stream.nd rfl (Or.inl rfl) pe_int)
  (C8.pss_cut (ps_if (pt_cmpR op_gt (pe_callB Gx.cr_lenQ (by rfl) T.z_len bt_len (pa_cons (pv 0) pa_nil)) pe_int (nomark _))
  (pss_one (ps_set (i := 5) sc__law_stream.nd rfl (Or.inl rfl) (pe_ix ix_list (pv 0) (pe_op op_mod (pv 4) (pe_callB Gx.cr_lenQ (by rfl) T.z_len bt_len (pa_cons (pv 0) pa_nil))) (fun _ _ => rfl))))
  pss_nil)
  (pss_one (ps_expr (pe_bm PySem.F.plainAttrs_list PySem.F.slot_list_append PySem.F.type_list_append mt_append (pv 3) (pa_cons (pe_op op_mod (pe_call G__law_mix (hr.mono (by first | decide | omega)) (by rfl) T.g__law_mix T.F__law_mix.kp T.b__law_mix .nil pass0 (pa_cons (pv 5) (pa_cons (pv 4) pa_nil))) pe_int) pa_nil)))))))))
  (pss_one (ps_ret (pv 3))))))))), ?_⟩
    rw [st__law_stream]
    try dsimp only [cxOf]
    walk_at "g"
    have hS' : ∀ H', Same H H' → SqL K H' a (ns.map V.int) := fun H' e => e.seq hS
    -- the first cell
    refine ⟨fun σ H1 => ∃ rest : Int, 0 ≤ rest ∧ H1 = H ∧ σ = [some (.ref a), some (.int many), some (.int rest), none, none, none], ?_, ?_⟩
    · walk_at "g"
      refine Gx.iteD (fun e => ?_) (fun e => ?_)
      · walk_at "g"
        exact ⟨_, by split <;> omega, rfl, rfl⟩
      · walk_at "g"
        exact ⟨0, by omega, rfl, rfl⟩
    · rintro σ H1 ⟨rest, hr0, rfl, rfl⟩
      walk_at "g"
      refine ⟨fun σ H2 => ∃ rest : Int, 0 ≤ rest ∧ H2 = H1 ∧ σ = [some (.ref a), some (.int many), some (.int rest), none, none, none], ?_, ?_⟩
      · walk_at "g"
        refine Gx.iteD (fun e => ?_) (fun e => ?_)
        · walk_at "g"
          exact ⟨0, by omega, rfl, rfl⟩
        · walk_at "g"
          exact ⟨rest, hr0, rfl, rfl⟩
      · rintro σ H2 ⟨rest, hr0, rfl, rfl⟩
        walk_at "g"
        refine Gx.newD (by decide) (fun p H3 E3 => ?_)
        walk_at "g"
        refine ⟨_, rfl, by omega, by omega, for_range (fun i σ H4 => ∃ (rest : Int) (y z : Option V) (xs : List Int), 0 ≤ rest ∧ σ = [some (.ref a), some (.int many), some (.int rest), some (.ref p), y, z] ∧ Same H2 H4 ∧
          H4 p = some (.lst (xs.map V.int)) ∧ xs.length = i ∧ Dig xs) ⟨rest, none, none, [], hr0, rfl, E3.same, E3.at_, rfl, fun x hx => by cases hx⟩ ?_ ?_⟩
        · rintro i σ H4 hi ⟨rest, y, z, xs, h2, rfl, s4, e4, l4, d4⟩
          walk_at "g"
          have hS4 : SqL K H4 a (ns.map V.int) := hS' _ s4
          refine Gx.iteD (fun e => ?_) (fun e => ?_)
          · walk_at "g"
            exact ⟨rest / 60, _, _, xs ++ [rest % 60], by omega, rfl, Gx.Same.put s4 E3.fresh, upd_same, by simp [l4], d4.snoc (by omega) (by omega)⟩
          · walk_at "g"
            refine ⟨fun σ H5 => ∃ cell : Int, H5 = H4 ∧ σ = [some (.ref a), some (.int many), some (.int rest), some (.ref p), some (.int (0 + i)), some (.int cell)], ?_, ?_⟩
            · walk_at "g"
              refine Gx.iteD (fun e => ?_) (fun e => ?_)
              · walk_at "g"
                exact ⟨_, rfl, rfl⟩
              · walk_at "g"
                exact ⟨_, rfl, rfl⟩
            · rintro σ H5 ⟨cell, rfl, rfl⟩
              walk_at "g"
              refine ⟨_, _, rfl, by omega, by omega, ?_⟩
              walk_at "g"
              exact ⟨rest, _, _, xs ++ [mix cell (0 + i) % 60], by omega, rfl, Gx.Same.put s4 E3.fresh, upd_same, by simp [l4], d4.snoc (by omega) (by omega)⟩
        · rintro σ H4 ⟨rest, y, z, xs, h2, rfl, s4, e4, l4, d4⟩
          walk_at "g"
          exact q H4 p xs s4 E3.fresh e4 (by omega) d4
def pick (xs : List Int) (at_ many : Int) : Int := xs.getD (at_ % xs.length).toNat 0 % many
theorem pick_0 (xs : List Int) (a : Int) {m : Int} (h : 0 < m) : 0 ≤ pick xs a m := Int.emod_nonneg _ (by omega)
theorem pick_lt (xs : List Int) (a : Int) {m : Int} (h : 0 < m) : pick xs a m < m := Int.emod_lt_of_pos _ h
def sp_pick (K : PySem.W.Frag) : Sp := fun vs H Q _ => ∃ (a : Addr) (xs : List Int) (i m : Int), vs = [.ref a, .int i, .int m] ∧ SqL K H a (xs.map V.int) ∧ 0 < xs.length ∧ 0 < m ∧ Q (.int (pick xs i m)) H
theorem G__law_pick (T : Txt K mg w) : FnOk P w K mg base CX0 1 T.f__law_pick T.fd__law_pick ["numbers", "at", "many"] (sp_pick K) := by
  refine T.F__law_pick.ok sc__law_pick (fun vs H Q E h => ?_) (fun cdv A outer s H vs Q E hr h => ?_)
  · obtain ⟨a, ns, i, m, rfl, _⟩ := h
    rfl
  · obtain ⟨a, xs, i, m, rfl, hS, hl, hm, q⟩ := h
    refine ⟨_, ((pss_one (ps_ret (pe_op op_mod (pe_callTy Gx.cr_int1 (by rfl) T.z_int bt_int (pa_cons (pe_ix ix_list (pv 0) (pe_op op_mod (pv 1) (pe_callB Gx.cr_lenQ (by rfl) T.z_len bt_len (pa_cons (pv 0) pa_nil))) (fun _ _ => rfl)) pa_nil)) (pv 2))))), ?_⟩
    rw [st__law_pick]
    try dsimp only [cxOf]
    walk_at "g"
    exact q
end
end K13
namespace K13
open PySem PySem.Spec PyProof.Rows L2
local macro_rules | `(tactic| walk_at "con") => `(tactic| first | with_reducible refine Gx.conE K13.ks0 ?_ | with_reducible refine Gx.conE K13.ks1 ?_ | with_reducible refine Gx.conE K13.ks2 ?_ | with_reducible refine Gx.conE K13.ks3 ?_ | with_reducible refine Gx.conE K13.ks4 ?_ | with_reducible refine Gx.conE K13.ks5 ?_ | with_reducible refine Gx.conE K13.ks6 ?_ | with_reducible refine Gx.conE K13.ks7 ?_ | with_reducible refine Gx.conE K13.ks8 ?_ | with_reducible refine Gx.conE K13.ks9 ?_ | with_reducible refine Gx.conE K13.ks10 ?_ | with_reducible refine Gx.conE K13.ks11 ?_ | with_reducible refine Gx.conE K13.ks12 ?_ | with_reducible refine Gx.conE K13.ks13 ?_ | with_reducible refine Gx.conE K13.ks14 ?_ | with_reducible refine Gx.conE K13.ks15 ?_ | with_reducible refine Gx.conE K13.ks16 ?_ | with_reducible refine Gx.conE K13.ks17 ?_ | with_reducible refine Gx.conE K13.ks18 ?_ | with_reducible refine Gx.conE K13.ks19 ?_ | with_reducible refine Gx.conE K13.ks20 ?_ | with_reducible refine Gx.conE K13.ks21 ?_ | with_reducible refine Gx.conE K13.ks22 ?_ | with_reducible refine Gx.conE K13.ks23 ?_ | with_reducible refine Gx.conE K13.ks24 ?_ | with_reducible refine Gx.conE K13.ks25 ?_ | with_reducible refine Gx.conE K13.ks26 ?_ | with_reducible refine Gx.conE K13.ks27 ?_ | with_reducible refine Gx.conE K13.ks28 ?_ | with_reducible refine Gx.conE K13.ks29 ?_ | with_reducible refine Gx.conE K13.ks30 ?_ | with_reducible refine Gx.conE K13.ks31 ?_ | with_reducible refine Gx.conE K13.ks32 ?_ | with_reducible refine Gx.conE K13.ks33 ?_ | with_reducible refine Gx.conE K13.ks34 ?_ | with_reducible refine Gx.conE K13.ks35 ?_ | with_reducible refine Gx.conE K13.ks36 ?_ | with_reducible refine Gx.conE K13.ks37 ?_ | with_reducible refine Gx.conE K13.ks38 ?_ | with_reducible refine Gx.conE K13.ks39 ?_ | with_reducible refine Gx.conE K13.ks40 ?_ | with_reducible refine Gx.conE K13.ks41 ?_ | with_reducible refine Gx.conE K13.ks42 ?_ | with_reducible refine Gx.conE K13.ks43 ?_ | with_reducible refine Gx.conE K13.ks44 ?_ | with_reducible refine Gx.conE K13.ks45 ?_ | with_reducible refine Gx.conE K13.ks46 ?_ | with_reducible refine Gx.conE K13.ks47 ?_ | with_reducible refine Gx.conE K13.ks48 ?_ | with_reducible refine Gx.conE K13.ks49 ?_ | with_reducible refine Gx.conE K13.ks50 ?_ | with_reducible refine Gx.conE K13.ks51 ?_ | with_reducible refine Gx.conE K13.ks52 ?_ | with_reducible refine Gx.conE K13.ks53 ?_ | with_reducible refine Gx.conE K13.ks54 ?_ | with_reducible refine Gx.conE K13.ks55 ?_ | with_reducible refine Gx.conE K13.ks56 ?_ | with_reducible refine Gx.conE K13.ks57 ?_ | with_reducible refine Gx.conE K13.ks58 ?_ | with_reducible refine Gx.conE K13.ks59 ?_ | with_reducible refine Gx.conE K13.ks60 ?_ | with_reducible refine Gx.conE K13.ks61 ?_ | with_reducible refine Gx.conE K13.ks62 ?_ | with_reducible refine Gx.conE K13.ks63 ?_)
section
variable {P : Program} {w : World} {K : PySem.W.Frag} {mg : Str → Option Value} {base : Heap}

/-- the promise of _law_kind, to a depth below n -/
def spK (K : PySem.W.Frag) : Nat → Sp
  | 0 => fun _ _ _ _ => False
  | n + 1 => fun vs H Q _ => ∃ (x : V) (d : PyData), vs = [x] ∧ Dp K H x d ∧ Gx.okD d = true ∧ PyData.depth d ≤ n ∧ ∀ H' y, Same H H' → Dp K H' y (Gx.kindD d) → Q y H'
theorem G__law_kind (T : Txt K mg w) : ∀ n, FnOk P w K mg base CX0 n T.f__law_kind T.fd__law_kind ["value"] (spK K n)
  | 0 => ⟨fun _ _ _ _ h => h.elim, fun _ _ _ _ _ _ _ _ _ _ _ _ _ h => h.elim⟩
  | n + 1 => by
    have G__law_kind := G__law_kind T n
    refine T.F__law_kind.ok sc__law_kind (fun vs H Q E h => ?_) (fun cdv A outer s H vs Q E hr h => ?_)
    · obtain ⟨x, d, rfl, _⟩ := h
      rfl
    · obtain ⟨x, d, rfl, hx, ok, dp, q⟩ := h
      refine ⟨_, ((pss_cons (ps_if (pt_cmpR Gx.op_isNG (pv 0) pe_non (nomark _))
  (pss_one (ps_ret (pe_tup (pa_cons pe_str pa_nil))))
  pss_nil)
  (pss_cons (ps_if (pt_val (pe_callB call_isi (by rfl) T.z_isinstance bt_isinstance (pa_cons (pv 0) (pa_cons (pe_bltn (v := .ty "bool") rfl T.z_bool bt_bool rfl) pa_nil))))
  (pss_one (ps_ret (pe_tup (pa_cons pe_str (pa_cons (pe_callTy Gx.cr_strB (by rfl) T.z_str bt_str (pa_cons (pv 0) pa_nil)) pa_nil)))))
  pss_nil)
  (pss_cons (ps_if (pt_val (pe_callB call_isi (by rfl) T.z_isinstance bt_isinstance (pa_cons (pv 0) (pa_cons (pe_bltn (v := .ty "int") rfl T.z_int bt_int rfl) pa_nil))))
  (pss_one (ps_ret (pe_tup (pa_cons pe_str (pa_cons (pv 0) pa_nil)))))
  pss_nil)
  (pss_cons (ps_if (pt_val (pe_callB call_isi (by rfl) T.z_isinstance bt_isinstance (pa_cons (pv 0) (pa_cons (pe_bltn (v := .ty "str") rfl T.z_str bt_str rfl) pa_nil))))
  (pss_one (ps_ret (pe_tup (pa_cons pe_str (pa_cons (pv 0) pa_nil)))))
  pss_nil)
  (pss_cons (ps_if (pt_val (pe_callB call_isi (by rfl) T.z_isinstance bt_isinstance (pa_cons (pv 0) (pa_cons (pe_bltn (v := .ty "list") rfl T.z_list bt_list rfl) pa_nil))))
  (pss_one (ps_ret (pe_op op_catA (pe_tup (pa_cons pe_str pa_nil)) (pe_callTy Gx.cr_tupL (by rfl) T.z_tuple bt_tuple (pa_cons (pe_lc (own := [("item", 1)]) (g := (gName 1)) (tt := tYes) (by rfl) sc__law_kind.nd (pi_list (pv 0)) (blkOk_by (N := ["value", "item"]) (sc := defScope s__law_kind) (by decide +kernel)) (fun _ _ _ _ _ => (pg_name (i := 1) sc__law_kind.nd rfl (Or.inl rfl))) (fun _ _ _ _ _ => pts_nil) (fun _ _ _ _ _ => (pe_call G__law_kind (hr.mono (by first | decide | omega)) (by rfl) T.g__law_kind T.F__law_kind.kp T.b__law_kind .nil pass0 (pa_cons (pv 1) pa_nil)))) pa_nil)))))
  pss_nil)
  (pss_cons (ps_if (pt_val (pe_callB call_isi (by rfl) T.z_isinstance bt_isinstance (pa_cons (pv 0) (pa_cons (pe_bltn (v := .ty "tuple") rfl T.z_tuple bt_tuple rfl) pa_nil))))
  (pss_one (ps_ret (pe_op op_catA (pe_tup (pa_cons pe_str pa_nil)) (pe_callTy Gx.cr_tupL (by rfl) T.z_tuple bt_tuple (pa_cons (pe_lc (own := [("item", 1)]) (g := (gName 1)) (tt := tYes) (by rfl) sc__law_kind.nd (pi_tup (pv 0)) (blkOk_by (N := ["value", "item"]) (sc := defScope s__law_kind) (by decide +kernel)) (fun _ _ _ _ _ => (pg_name (i := 1) sc__law_kind.nd rfl (Or.inl rfl))) (fun _ _ _ _ _ => pts_nil) (fun _ _ _ _ _ => (pe_call G__law_kind (hr.mono (by first | decide | omega)) (by rfl) T.g__law_kind T.F__law_kind.kp T.b__law_kind .nil pass0 (pa_cons (pv 1) pa_nil)))) pa_nil)))))
  pss_nil)
  (pss_one (ps_ret (pe_tup (pa_cons pe_str pa_nil))))))))))), ?_⟩
      rw [st__law_kind]
      try dsimp only [cxOf]
      cases d with
      | none =>
        cases hx
        walk_at "g"
        refine ⟨Gx.line (by decide), fun p np => ?_⟩
        have E6 := Gx.ext1 (o := .tup [.str (Gx.mkS [110, 111, 110, 101])]) np
        exact q _ _ E6.same (.tup (SqT.of upd_same) (.cons (.str _) .nil))
      | bool b =>
        cases hx
        walk_at "g"
        refine ⟨Gx.line (by show 2 ≤ 16777216; decide), fun p np => ?_⟩
        exact q _ _ (Gx.ext1 np).same (.tup (SqT.of upd_same) (.cons (.str _) (.cons (.str _) .nil)))
      | int i =>
        cases hx
        walk_at "g"
        refine ⟨Gx.line (by show 2 ≤ 16777216; decide), fun p np => ?_⟩
        exact q _ _ (Gx.ext1 np).same (.tup (SqT.of upd_same) (.cons (.str _) (.cons (.int _) .nil)))
      | str z =>
        cases hx
        walk_at "g"
        refine ⟨Gx.line (by show 2 ≤ 16777216; decide), fun p np => ?_⟩
        exact q _ _ (Gx.ext1 np).same (.tup (SqT.of upd_same) (.cons (.str _) (.cons (.str _) .nil)))
      | list ds =>
        cases hx with
        | @lst a xs _ hs ha =>
          have ok' : ds.length ≤ 100000 ∧ Gx.okDs ds = true := by simpa [Gx.okD] using ok
          have hl := Gx.dpAll_len ha
          rw [PyData.depth] at dp
          walk_at "g"
          refine ⟨Gx.line (by decide), fun p np => ?_⟩
          have E1 := Gx.ext1 (o := .tup [.str (Gx.mkS [108, 105, 115, 116])]) np
          generalize upd H p (.tup [.str (Gx.mkS [108, 105, 115, 116])]) = H1 at E1 ⊢
          have hs1 := E1.same.seq hs
          walk_at "g"
          refine ⟨⟨_, hs1⟩, fun D nD => lc_list (K := K) (a := a) (xs := xs) (fun i H2 => Same H1 H2 ∧ ∃ ys, H2 D = some (.lst ys) ∧ DpAll K H2 ys (Gx.kindAll (ds.take i)))
            ⟨Gx.Same.put (Same.refl H1) nD, [], upd_same, by rw [List.take_zero]; exact .nil⟩ (fun i H2 _ ⟨s2, _⟩ => s2.seq hs1) ?_ ?_⟩
          · rintro i x H2 hi ⟨s2, ys, e2, d2⟩
            obtain ⟨d, hd, dx⟩ := Gx.dpAll_get (Gx.dpAll_same (E1.same.trans s2) ds _ ha) hi
            obtain ⟨m, rfl⟩ : ∃ m, n = m + 1 := ⟨n - 1, by omega⟩
            have hil : i < ds.length := (List.getElem?_eq_some_iff.mp hd).1
            walk_at "g"
            refine ⟨rfl, ?_⟩
            walk_at "g"
            refine ⟨x, d, rfl, dx, Gx.okDs_get ok'.2 hd, by have := Gx.depth_get hd; omega, fun H3 y s3 dy => ?_⟩
            refine ⟨ys, s3 _ _ e2, Gx.lineL (by rw [Gx.dpAll_len d2, Gx.kindAll_len, List.length_take]; omega), Gx.Same.put (s2.trans s3) nD, ys ++ [y], upd_same, ?_⟩
            rw [List.take_add_one, hd, Option.toList_some, Gx.kindAll_app]
            refine Gx.dpAll_app (Gx.dpAll_tups (Gx.Tups.upd (s3 _ _ e2)) _ _ (Gx.noLs_kind _) (Gx.dpAll_same s3 _ _ d2)) (.cons (Gx.dp_tups (Gx.Tups.upd (s3 _ _ e2)) _ _ (Gx.noL_kind d) dy) .nil)
          · rintro H2 ⟨s2, ys, e2, d2⟩
            rw [hl, List.take_length] at d2
            walk_at "g"
            refine Gx.tupL (SqL.of e2) (fun t nt => ?_)
            have E3 := Gx.ext1 (o := .tup ys) nt
            generalize upd H2 t (.tup ys) = H3 at E3 ⊢
            walk_at "g"
            refine Gx.catA (SqT.of (E3.same _ _ (s2 _ _ E1.at_))) (SqT.of E3.at_) (by rw [Gx.dpAll_len d2, Gx.kindAll_len]; show 1 + _ ≤ _; omega) (fun r H4 s4 hr => ?_)
            exact q _ _ (((E1.same.trans s2).trans E3.same).trans s4) (.tup hr (.cons (.str _) (Gx.dpAll_same (E3.same.trans s4) _ _ d2)))
      | tuple ds =>
        cases hx with
        | @tup a xs _ hs ha =>
          have ok' : ds.length ≤ 100000 ∧ Gx.okDs ds = true := by simpa [Gx.okD] using ok
          have hl := Gx.dpAll_len ha
          rw [PyData.depth] at dp
          walk_at "g"
          refine ⟨Gx.line (by decide), fun p np => ?_⟩
          have E1 := Gx.ext1 (o := .tup [.str (Gx.mkS [116, 117, 112, 108, 101])]) np
          generalize upd H p (.tup [.str (Gx.mkS [116, 117, 112, 108, 101])]) = H1 at E1 ⊢
          have hs1 := E1.same.seqT hs
          walk_at "g"
          refine ⟨⟨_, hs1⟩, fun D nD => lc_tup (K := K) (a := a) (xs := xs) (fun i H2 => Same H1 H2 ∧ ∃ ys, H2 D = some (.lst ys) ∧ DpAll K H2 ys (Gx.kindAll (ds.take i)))
            ⟨Gx.Same.put (Same.refl H1) nD, [], upd_same, by rw [List.take_zero]; exact .nil⟩ (fun i H2 _ ⟨s2, _⟩ => s2.seqT hs1) ?_ ?_⟩
          · rintro i x H2 hi ⟨s2, ys, e2, d2⟩
            obtain ⟨d, hd, dx⟩ := Gx.dpAll_get (Gx.dpAll_same (E1.same.trans s2) ds _ ha) hi
            obtain ⟨m, rfl⟩ : ∃ m, n = m + 1 := ⟨n - 1, by omega⟩
            have hil : i < ds.length := (List.getElem?_eq_some_iff.mp hd).1
            walk_at "g"
            refine ⟨rfl, ?_⟩
            walk_at "g"
            refine ⟨x, d, rfl, dx, Gx.okDs_get ok'.2 hd, by have := Gx.depth_get hd; omega, fun H3 y s3 dy => ?_⟩
            refine ⟨ys, s3 _ _ e2, Gx.lineL (by rw [Gx.dpAll_len d2, Gx.kindAll_len, List.length_take]; omega), Gx.Same.put (s2.trans s3) nD, ys ++ [y], upd_same, ?_⟩
            rw [List.take_add_one, hd, Option.toList_some, Gx.kindAll_app]
            refine Gx.dpAll_app (Gx.dpAll_tups (Gx.Tups.upd (s3 _ _ e2)) _ _ (Gx.noLs_kind _) (Gx.dpAll_same s3 _ _ d2)) (.cons (Gx.dp_tups (Gx.Tups.upd (s3 _ _ e2)) _ _ (Gx.noL_kind d) dy) .nil)
          · rintro H2 ⟨s2, ys, e2, d2⟩
            rw [hl, List.take_length] at d2
            walk_at "g"
            refine Gx.tupL (SqL.of e2) (fun t nt => ?_)
            have E3 := Gx.ext1 (o := .tup ys) nt
            generalize upd H2 t (.tup ys) = H3 at E3 ⊢
            walk_at "g"
            refine Gx.catA (SqT.of (E3.same _ _ (s2 _ _ E1.at_))) (SqT.of E3.at_) (by rw [Gx.dpAll_len d2, Gx.kindAll_len]; show 1 + _ ≤ _; omega) (fun r H4 s4 hr => ?_)
            exact q _ _ (((E1.same.trans s2).trans E3.same).trans s4) (.tup hr (.cons (.str _) (Gx.dpAll_same (E3.same.trans s4) _ _ d2)))
      | dict _ => cases hx
def sp_same (K : PySem.W.Frag) : Sp := fun vs H Q _ => ∃ (x y : V) (d : PyData), vs = [x, y] ∧ Dp K H x d ∧ Dp K H y d ∧ Gx.okD d = true ∧ PyData.depth d ≤ 60 ∧ ∀ H', Same H H' → Q (.bl true) H'
theorem G__law_same (T : Txt K mg w) : FnOk P w K mg base CX0 62 T.f__law_same T.fd__law_same ["answer", "due"] (sp_same K) := by
  have G__law_kind := G__law_kind (P := P) (w := w) (base := base) T 61
  refine T.F__law_same.ok sc__law_same (fun vs H Q E h => ?_) (fun cdv A outer s H vs Q E hr h => ?_)
  · obtain ⟨x, y, d, rfl, _⟩ := h
    rfl
  · obtain ⟨x, y, d, rfl, hx, hy, ok, dp, q⟩ := h
    refine ⟨_, ((pss_one (ps_ret (pe_cmpR (op_eqD hr.units) (pe_call G__law_kind (hr.mono (by first | decide | omega)) (by rfl) T.g__law_kind T.F__law_kind.kp T.b__law_kind .nil pass0 (pa_cons (pv 0) pa_nil)) (pe_call G__law_kind (hr.mono (by first | decide | omega)) (by rfl) T.g__law_kind T.F__law_kind.kp T.b__law_kind .nil pass0 (pa_cons (pv 1) pa_nil)) (nomark _))))), ?_⟩
    rw [st__law_same]
    try dsimp only [cxOf]
    walk_at "g"
    refine ⟨x, d, rfl, hx, ok, dp, fun H1 u s1 du => ?_⟩
    walk_at "g"
    refine ⟨y, d, rfl, Gx.dp_same s1 d _ hy, ok, dp, fun H2 v s2 dv => ?_⟩
    refine ⟨_, _, Gx.dp_same s2 _ _ du, dv, Gx.shaped_kind ok (by omega), Gx.shaped_kind ok (by omega), ?_⟩
    rw [Gx.eqv_kind ok]
    exact q H2 (s1.trans s2)
end
end K13
namespace K13
open PySem PySem.Spec PyProof.Rows L2
local macro_rules | `(tactic| walk_at "con") => `(tactic| first | with_reducible refine Gx.conE K13.ks0 ?_ | with_reducible refine Gx.conE K13.ks1 ?_ | with_reducible refine Gx.conE K13.ks2 ?_ | with_reducible refine Gx.conE K13.ks3 ?_ | with_reducible refine Gx.conE K13.ks4 ?_ | with_reducible refine Gx.conE K13.ks5 ?_ | with_reducible refine Gx.conE K13.ks6 ?_ | with_reducible refine Gx.conE K13.ks7 ?_ | with_reducible refine Gx.conE K13.ks8 ?_ | with_reducible refine Gx.conE K13.ks9 ?_ | with_reducible refine Gx.conE K13.ks10 ?_ | with_reducible refine Gx.conE K13.ks11 ?_ | with_reducible refine Gx.conE K13.ks12 ?_ | with_reducible refine Gx.conE K13.ks13 ?_ | with_reducible refine Gx.conE K13.ks14 ?_ | with_reducible refine Gx.conE K13.ks15 ?_ | with_reducible refine Gx.conE K13.ks16 ?_ | with_reducible refine Gx.conE K13.ks17 ?_ | with_reducible refine Gx.conE K13.ks18 ?_ | with_reducible refine Gx.conE K13.ks19 ?_ | with_reducible refine Gx.conE K13.ks20 ?_ | with_reducible refine Gx.conE K13.ks21 ?_ | with_reducible refine Gx.conE K13.ks22 ?_ | with_reducible refine Gx.conE K13.ks23 ?_ | with_reducible refine Gx.conE K13.ks24 ?_ | with_reducible refine Gx.conE K13.ks25 ?_ | with_reducible refine Gx.conE K13.ks26 ?_ | with_reducible refine Gx.conE K13.ks27 ?_ | with_reducible refine Gx.conE K13.ks28 ?_ | with_reducible refine Gx.conE K13.ks29 ?_ | with_reducible refine Gx.conE K13.ks30 ?_ | with_reducible refine Gx.conE K13.ks31 ?_ | with_reducible refine Gx.conE K13.ks32 ?_ | with_reducible refine Gx.conE K13.ks33 ?_ | with_reducible refine Gx.conE K13.ks34 ?_ | with_reducible refine Gx.conE K13.ks35 ?_ | with_reducible refine Gx.conE K13.ks36 ?_ | with_reducible refine Gx.conE K13.ks37 ?_ | with_reducible refine Gx.conE K13.ks38 ?_ | with_reducible refine Gx.conE K13.ks39 ?_ | with_reducible refine Gx.conE K13.ks40 ?_ | with_reducible refine Gx.conE K13.ks41 ?_ | with_reducible refine Gx.conE K13.ks42 ?_ | with_reducible refine Gx.conE K13.ks43 ?_ | with_reducible refine Gx.conE K13.ks44 ?_ | with_reducible refine Gx.conE K13.ks45 ?_ | with_reducible refine Gx.conE K13.ks46 ?_ | with_reducible refine Gx.conE K13.ks47 ?_ | with_reducible refine Gx.conE K13.ks48 ?_ | with_reducible refine Gx.conE K13.ks49 ?_ | with_reducible refine Gx.conE K13.ks50 ?_ | with_reducible refine Gx.conE K13.ks51 ?_ | with_reducible refine Gx.conE K13.ks52 ?_ | with_reducible refine Gx.conE K13.ks53 ?_ | with_reducible refine Gx.conE K13.ks54 ?_ | with_reducible refine Gx.conE K13.ks55 ?_ | with_reducible refine Gx.conE K13.ks56 ?_ | with_reducible refine Gx.conE K13.ks57 ?_ | with_reducible refine Gx.conE K13.ks58 ?_ | with_reducible refine Gx.conE K13.ks59 ?_ | with_reducible refine Gx.conE K13.ks60 ?_ | with_reducible refine Gx.conE K13.ks61 ?_ | with_reducible refine Gx.conE K13.ks62 ?_ | with_reducible refine Gx.conE K13.ks63 ?_)
section
variable {P : Program} {w : World} {K : PySem.W.Frag} {mg : Str → Option Value} {base : Heap}
def sp_signs : Sp := fun vs H Q _ => ∃ (n : Int), vs = [.int n] ∧ 0 ≤ n ∧ ∀ H' l, Same H H' → Sg l → l ≠ [] → l.Pairwise (· < ·) → l.length ≤ 5 → Q (.str (Gx.mkS l)) H'
theorem G__law_signs (T : Txt K mg w) : FnOk P w K mg base CX0 1 T.f__law_signs T.fd__law_signs ["number"] sp_signs := by
  refine T.F__law_signs.ok sc__law_signs (fun vs H Q E h => ?_) (fun cdv A outer s H vs Q E hr h => ?_)
  · obtain ⟨n, rfl, _⟩ := h
    rfl
  · obtain ⟨n, rfl, h0, q⟩ := h
    refine ⟨_, ((pss_cons (ps_setLc (i := 1) (own := [("k", 2)]) (g := (gName 2))  rfl sc__law_signs.nd rfl rfl (sw_true rfl rfl rfl (by decide +kernel)) (pi_range1 rfl T.z_range (pa_cons pe_int pa_nil)) (blkOk_by (N := ["number", "found", "k"]) (sc := defScope s__law_signs) (by decide +kernel)) (fun _ _ _ _ _ => (pg_name (i := 2) sc__law_signs.nd rfl (Or.inl rfl))) (fun _ _ _ _ _ => (pts_one (pt_cmpR op_eq (pe_op op_mod (pe_op op_fdiv (pe_callTy Gx.cr_int1 (by rfl) T.z_int bt_int (pa_cons (pv 0) pa_nil)) (pe_ix (r := rIxL K) ix_list (pe_lst (pa_cons pe_int (pa_cons pe_int (pa_cons pe_int (pa_cons pe_int (pa_cons pe_int pa_nil)))))) (pv 2) (fun _ _ => rfl))) pe_int) pe_int (nomark _)))) (fun _ _ _ _ _ => (pe_ix ix_str pe_str (pv 2) (fun _ _ => rfl))))
  (pss_cons (ps_if (pt_cmpR (op_eqD hr.units) (pv 1) (pe_lst pa_nil) (nomark _))
  (pss_one (ps_ret pe_str))
  pss_nil)
  (pss_one (ps_ret (Gx.pe_joinG pe_str (pv 1))))))), ?_⟩
    rw [st__law_signs]
    try dsimp only [cxOf]
    walk_at "g"
    refine ⟨5, rfl, by decide, by decide, fun D nD => lc_range (lo := 0) (n := 5) (fun j H' => Same H H' ∧ ∃ ks : List Nat, H' D = some (.lst (((ks.map fun k => [sg k]).map Gx.mkS).map V.str)) ∧ ks.Pairwise (· < ·) ∧ ks.length ≤ j ∧ ∀ k ∈ ks, k < j) ⟨Gx.Same.put (Same.refl H) nD, [], upd_same, .nil, Nat.le_refl _, fun k hk => (by cases hk)⟩ ?_ ?_⟩
    · rintro j H1 hj ⟨s1, ks, e1, nd, kl, kk⟩
      have hj' : j < 5 := hj
      obtain ⟨d, hd, hd1, hd2⟩ := pow5 hj'
      walk_at "g"
      refine ⟨rfl, ?_⟩
      walk_at "g"
      refine Gx.newL (by simp) fun p H2 E2 => ?_
      have e2 := E2.same _ _ e1
      walk_at "g"
      refine Gx.ixL (SqL.of E2.at_) (Gx.atI_of (k := j) (by omega) hd) ?_
      walk_at "g"
      refine Gx.iteD (fun hm => ?_) (fun hm => ?_)
      · walk_at "g"
        rw [show (0 + (j : Int)).toNat = j by omega]
        refine ⟨_, e2, Gx.lineL (by rw [List.length_map, List.length_map, List.length_map]; omega), Gx.Same.put (s1.trans E2.same) nD, ks ++ [j], ?_, ?_, ?_, ?_⟩
        · rw [upd_same, List.map_append, List.map_append, List.map_append]
          rfl
        · exact List.pairwise_append.mpr ⟨nd, by simp, fun x hx y hy => by rw [List.mem_singleton.mp hy]; exact kk x hx⟩
        · rw [List.length_append, List.length_singleton]; omega
        · intro k hk
          rcases List.mem_append.mp hk with h | h
          · exact Nat.lt_succ_of_lt (kk k h)
          · rw [List.mem_singleton.mp h]; exact Nat.lt_succ_self _
      · exact ⟨s1.trans E2.same, ks, e2, nd, Nat.le_succ_of_le kl, fun k hk => Nat.lt_succ_of_lt (kk k hk)⟩
    · rintro H1 ⟨s1, ks, e1, nd, kl, kk⟩
      replace kk : ∀ k ∈ ks, k < 5 := kk
      replace kl : ks.length ≤ 5 := kl
      have hsg : Sg (ks.map sg) := fun c hc => by
        obtain ⟨k, hk, rfl⟩ := List.mem_map.mp hc
        exact sg_mem (kk k hk)
      have hsg2 : ∀ l ∈ ks.map (fun k => [sg k]), Sg l := fun l hl => by
        obtain ⟨k, hk, rfl⟩ := List.mem_map.mp hl
        intro c hc
        rw [List.mem_singleton.mp hc]
        exact sg_mem (kk k hk)
      have hnd : (ks.map sg).Pairwise (· < ·) := List.pairwise_map.mpr (List.Pairwise.imp_of_mem (fun {x y} hx hy hne => sg_lt hne (kk y hy)) nd)
      walk_at "g"
      refine Gx.newL (by simp) fun p H2 E2 => ?_
      have e2 := E2.same _ _ e1
      refine ⟨_, _, .lst (SqL.of e2) (strs_dp _), .lst (SqL.of E2.at_) .nil, strs_shaped hsg2, rfl, ?_⟩
      rw [strs_nil]
      walk_at "g"
      refine Gx.iteD (fun hm => ?_) (fun hm => ?_)
      · walk_at "g"
        exact q _ [98] (s1.trans E2.same) (fun c hc => by rw [List.mem_singleton.mp hc]; decide) (by simp) (by simp) (by simp)
      · walk_at "g"
        refine Gx.join0 (SqL.of e2) (by rw [flat_one1, List.length_map]; omega) ?_
        rw [flat_one1]
        walk_at "g"
        exact q _ _ (s1.trans E2.same) hsg (fun z => hm (by rw [List.map_eq_nil_iff] at z; rw [z]; rfl)) hnd (by rw [List.length_map]; exact kl)
theorem size8 {v : Nat} (h : v < 8) : ∃ d : Int, ([V.int 0, V.int 1, V.int 2, V.int 3, V.int 0, V.int 1, V.int 2, V.int 20])[v]? = some (V.int d) ∧ 0 ≤ d ∧ d ≤ 20 := by
  match v, h with
  | 0, _ => exact ⟨0, rfl, by decide, by decide⟩
  | 1, _ => exact ⟨1, rfl, by decide, by decide⟩
  | 2, _ => exact ⟨2, rfl, by decide, by decide⟩
  | 3, _ => exact ⟨3, rfl, by decide, by decide⟩
  | 4, _ => exact ⟨0, rfl, by decide, by decide⟩
  | 5, _ => exact ⟨1, rfl, by decide, by decide⟩
  | 6, _ => exact ⟨2, rfl, by decide, by decide⟩
  | 7, _ => exact ⟨20, rfl, by decide, by decide⟩
def sp_word (K : PySem.W.Frag) : Sp := fun vs H Q _ => ∃ (b : Addr) (xs : List Int) (i : Int), vs = [.ref b, .int i] ∧ SqL K H b (xs.map V.int) ∧ 0 < xs.length ∧ ∀ H' l, Same H H' → Sg l → l.length ≤ 20 → Q (.str (Gx.mkS l)) H'
theorem G__law_word (T : Txt K mg w) : FnOk P w K mg base CX0 2 T.f__law_word T.fd__law_word ["numbers", "at"] (sp_word K) := by
  have G__law_pick := G__law_pick (P := P) (w := w) (base := base) T
  refine T.F__law_word.ok sc__law_word (fun vs H Q E h => ?_) (fun cdv A outer s H vs Q E hr h => ?_)
  · obtain ⟨b, xs, i, rfl, _⟩ := h
    rfl
  · obtain ⟨b, xs, i, rfl, hX, hx, q⟩ := h
    refine ⟨_, ((pss_cons (ps_set (i := 2) sc__law_word.nd rfl (Or.inl rfl) (pe_ix ix_list (pe_lst (pa_cons pe_int (pa_cons pe_int (pa_cons pe_int (pa_cons pe_int (pa_cons pe_int (pa_cons pe_int (pa_cons pe_int (pa_cons pe_int pa_nil))))))))) (pe_call G__law_pick (hr.mono (by first | decide | omega)) (by rfl) T.g__law_pick T.F__law_pick.kp T.b__law_pick .nil pass0 (pa_cons (pv 0) (pa_cons (pv 1) (pa_cons pe_int pa_nil)))) (fun _ _ => rfl)))
  (pss_one (ps_ret (Gx.pe_joinG pe_str (pe_lc (own := [("k", 3)]) (g := (gName 3)) (tt := tYes) (by rfl) sc__law_word.nd (pi_range1 rfl T.z_range (pa_cons (pv 2) pa_nil)) (blkOk_by (N := ["numbers", "at", "size", "k"]) (sc := defScope s__law_word) (by decide +kernel)) (fun _ _ _ _ _ => (pg_name (i := 3) sc__law_word.nd rfl (Or.inl rfl))) (fun _ _ _ _ _ => pts_nil) (fun _ _ _ _ _ => (pe_ix ix_str pe_str (pe_call G__law_pick (hr.mono (by first | decide | omega)) (by rfl) T.g__law_pick T.F__law_pick.kp T.b__law_pick .nil pass0 (pa_cons (pv 0) (pa_cons (pe_op op_add (pe_op op_add (pv 1) pe_int) (pv 3)) (pa_cons pe_int pa_nil)))) (fun _ _ => rfl))))))))), ?_⟩
    clear G__law_pick
    rw [st__law_word]
    try dsimp only [cxOf]
    walk_at "g"
    refine Gx.newL (by simp) fun p H1 E1 => ?_
    have hX1 := E1.same.seq hX
    walk_at "g"
    refine ⟨b, xs, _, _, rfl, hX1, hx, by omega, ?_⟩
    have hv0 := pick_0 xs i (m := 8) (by omega)
    have hv1 := pick_lt xs i (m := 8) (by omega)
    generalize pick xs i 8 = v at *
    obtain ⟨d, hd, d0, d20⟩ := size8 (v := v.toNat) (by omega)
    refine Gx.ixL (SqL.of E1.at_) (Gx.atI_of (k := v.toNat) (by omega) hd) ?_
    walk_at "g"
    refine ⟨_, rfl, by omega, by omega, fun D nD => lc_range (lo := 0) (n := d.toNat) (fun j H' => Same H1 H' ∧ ∃ ks : List Nat, H' D = some (.lst (((ks.map fun k => [sg k]).map Gx.mkS).map V.str)) ∧ ks.length = j ∧ ∀ k ∈ ks, k < 5) ⟨Gx.Same.put (Same.refl H1) nD, [], upd_same, rfl, fun k hk => (by cases hk)⟩ ?_ ?_⟩
    · rintro j H9 hj ⟨s9, ks, e9, kl, kok⟩
      walk_at "g"
      refine ⟨rfl, ?_⟩
      walk_at "g"
      refine ⟨b, xs, _, _, rfl, s9.seq hX1, hx, by omega, ?_⟩
      have hu0 := pick_0 xs (i + 1 + (0 + (j : Int))) (m := 5) (by omega)
      have hu1 := pick_lt xs (i + 1 + (0 + (j : Int))) (m := 5) (by omega)
      walk_at "g"
      refine ⟨_, e9, Gx.lineL (by rw [List.length_map, List.length_map, List.length_map]; omega), Gx.Same.put s9 nD, ks ++ [(pick xs (i + 1 + (0 + (j : Int))) 5).toNat], ?_, by rw [List.length_append, kl]; rfl, fun t ht => ?_⟩
      · rw [upd_same, List.map_append, List.map_append, List.map_append]
        rfl
      · rcases List.mem_append.mp ht with h | h
        · exact kok t h
        · cases List.mem_singleton.mp h
          omega
    · rintro H9 ⟨s9, ks, e9, kl, kok⟩
      walk_at "g"
      refine Gx.join0 (SqL.of e9) (by rw [flat_one1, List.length_map]; omega) ?_
      rw [flat_one1]
      refine q _ _ (E1.same.trans s9) (fun c hc => ?_) (by rw [List.length_map]; omega)
      obtain ⟨k, hk, rfl⟩ := List.mem_map.mp hc
      exact sg_mem (kok k hk)
end
end K13
namespace K13
open PySem PySem.Spec PyProof.Rows L2
local macro_rules | `(tactic| walk_at "con") => `(tactic| first | with_reducible refine Gx.conE K13.ks0 ?_ | with_reducible refine Gx.conE K13.ks1 ?_ | with_reducible refine Gx.conE K13.ks2 ?_ | with_reducible refine Gx.conE K13.ks3 ?_ | with_reducible refine Gx.conE K13.ks4 ?_ | with_reducible refine Gx.conE K13.ks5 ?_ | with_reducible refine Gx.conE K13.ks6 ?_ | with_reducible refine Gx.conE K13.ks7 ?_ | with_reducible refine Gx.conE K13.ks8 ?_ | with_reducible refine Gx.conE K13.ks9 ?_ | with_reducible refine Gx.conE K13.ks10 ?_ | with_reducible refine Gx.conE K13.ks11 ?_ | with_reducible refine Gx.conE K13.ks12 ?_ | with_reducible refine Gx.conE K13.ks13 ?_ | with_reducible refine Gx.conE K13.ks14 ?_ | with_reducible refine Gx.conE K13.ks15 ?_ | with_reducible refine Gx.conE K13.ks16 ?_ | with_reducible refine Gx.conE K13.ks17 ?_ | with_reducible refine Gx.conE K13.ks18 ?_ | with_reducible refine Gx.conE K13.ks19 ?_ | with_reducible refine Gx.conE K13.ks20 ?_ | with_reducible refine Gx.conE K13.ks21 ?_ | with_reducible refine Gx.conE K13.ks22 ?_ | with_reducible refine Gx.conE K13.ks23 ?_ | with_reducible refine Gx.conE K13.ks24 ?_ | with_reducible refine Gx.conE K13.ks25 ?_ | with_reducible refine Gx.conE K13.ks26 ?_ | with_reducible refine Gx.conE K13.ks27 ?_ | with_reducible refine Gx.conE K13.ks28 ?_ | with_reducible refine Gx.conE K13.ks29 ?_ | with_reducible refine Gx.conE K13.ks30 ?_ | with_reducible refine Gx.conE K13.ks31 ?_ | with_reducible refine Gx.conE K13.ks32 ?_ | with_reducible refine Gx.conE K13.ks33 ?_ | with_reducible refine Gx.conE K13.ks34 ?_ | with_reducible refine Gx.conE K13.ks35 ?_ | with_reducible refine Gx.conE K13.ks36 ?_ | with_reducible refine Gx.conE K13.ks37 ?_ | with_reducible refine Gx.conE K13.ks38 ?_ | with_reducible refine Gx.conE K13.ks39 ?_ | with_reducible refine Gx.conE K13.ks40 ?_ | with_reducible refine Gx.conE K13.ks41 ?_ | with_reducible refine Gx.conE K13.ks42 ?_ | with_reducible refine Gx.conE K13.ks43 ?_ | with_reducible refine Gx.conE K13.ks44 ?_ | with_reducible refine Gx.conE K13.ks45 ?_ | with_reducible refine Gx.conE K13.ks46 ?_ | with_reducible refine Gx.conE K13.ks47 ?_ | with_reducible refine Gx.conE K13.ks48 ?_ | with_reducible refine Gx.conE K13.ks49 ?_ | with_reducible refine Gx.conE K13.ks50 ?_ | with_reducible refine Gx.conE K13.ks51 ?_ | with_reducible refine Gx.conE K13.ks52 ?_ | with_reducible refine Gx.conE K13.ks53 ?_ | with_reducible refine Gx.conE K13.ks54 ?_ | with_reducible refine Gx.conE K13.ks55 ?_ | with_reducible refine Gx.conE K13.ks56 ?_ | with_reducible refine Gx.conE K13.ks57 ?_ | with_reducible refine Gx.conE K13.ks58 ?_ | with_reducible refine Gx.conE K13.ks59 ?_ | with_reducible refine Gx.conE K13.ks60 ?_ | with_reducible refine Gx.conE K13.ks61 ?_ | with_reducible refine Gx.conE K13.ks62 ?_ | with_reducible refine Gx.conE K13.ks63 ?_)
section
variable {P : Program} {w : World} {K : PySem.W.Frag} {mg : Str → Option Value} {base : Heap}
def sp_renaming (K : PySem.W.Frag) : Sp := fun vs H Q _ => ∃ (b : Addr) (xs : List Int) (i : Int), vs = [.ref b, .int i] ∧ SqL K H b (xs.map V.int) ∧ 0 < xs.length ∧ ∀ l, Sg l → l.Nodup → l.length = 5 → Q (.str (Gx.mkS l)) H
theorem perm_out {l : List Nat} {p : Nat} (h : p < l.length) (t : List Nat) : ((t ++ [l.getD p 0]) ++ (l.take p ++ l.drop (p + 1))).Perm (t ++ l) := by
  have e : l = l.take p ++ l.getD p 0 :: l.drop (p + 1) := by
    rw [List.getD_eq_getElem?_getD, List.getElem?_eq_getElem h]
    show l = l.take p ++ l[p] :: l.drop (p + 1)
    rw [← List.drop_eq_getElem_cons h, List.take_append_drop]
  rw [List.append_assoc]
  refine List.Perm.append_left t ?_
  conv => rhs; rw [e]
  show (l.getD p 0 :: (l.take p ++ l.drop (p + 1))).Perm _
  exact List.perm_middle.symm
theorem G__law_renaming (T : Txt K mg w) : FnOk P w K mg base CX0 2 T.f__law_renaming T.fd__law_renaming ["numbers", "at"] (sp_renaming K) := by
  have G__law_pick := G__law_pick (P := P) (w := w) (base := base) T
  refine T.F__law_renaming.ok sc__law_renaming (fun vs H Q E h => ?_) (fun cdv A outer s H vs Q E hr h => ?_)
  · obtain ⟨b, xs, i, rfl, _⟩ := h
    rfl
  · obtain ⟨b, xs, i, rfl, hX, hx, q⟩ := h
    refine ⟨_, ((pss_cons (ps_set (i := 2) sc__law_renaming.nd rfl (Or.inl rfl) pe_str)
  (pss_cons (ps_set (i := 3) sc__law_renaming.nd rfl (Or.inl rfl) pe_str)
  (pss_cons (ps_for PassesOwn.never rfl (pi_range1 rfl T.z_range (pa_cons pe_int pa_nil)) (pg_name (i := 4) sc__law_renaming.nd rfl (Or.inl rfl))
  (pss_cons (ps_set (i := 5) sc__law_renaming.nd rfl (Or.inl rfl) (pe_call G__law_pick (hr.mono (by first | decide | omega)) (by rfl) T.g__law_pick T.F__law_pick.kp T.b__law_pick .nil pass0 (pa_cons (pv 0) (pa_cons (pe_op op_add (pv 1) (pv 4)) (pa_cons (pe_op op_sub pe_int (pv 4)) pa_nil)))))
  (pss_cons (ps_set (i := 3) sc__law_renaming.nd rfl (Or.inl rfl) (pe_op Gx.op_addS (pv 3) (pe_ix ix_str (pv 2) (pv 5) (fun _ _ => rfl))))
  (pss_one (ps_set (i := 2) sc__law_renaming.nd rfl (Or.inl rfl) (pe_op Gx.op_addS (pe_slice sl_str (pv 2) po_none (po_some (pv 5))) (pe_slice sl_str (pv 2) (po_some (pe_op op_add (pv 5) pe_int)) po_none)))))))
  (pss_one (ps_ret (pv 3))))))), ?_⟩
    clear G__law_pick
    rw [st__law_renaming]
    try dsimp only [cxOf]
    walk_at "g"
    refine ⟨5, rfl, by decide, by decide, for_range (fun j σ H' => H' = H ∧ ∃ (lf to : List Nat) (y z : Option V), (to ++ lf).Perm sgs ∧ to.length = j ∧ lf.length = 5 - j ∧ σ = [some (.ref b), some (.int i), some (.str (Gx.mkS lf)), some (.str (Gx.mkS to)), y, z]) ⟨rfl, sgs, [], none, none, List.Perm.refl _, rfl, rfl, rfl⟩ ?_ ?_⟩
    · rintro j σ H5 hj ⟨rfl, lf, to, y, z, hp, h1, h2, rfl⟩
      have hj' : j < 5 := hj
      walk_at "g"
      refine ⟨b, xs, _, _, rfl, hX, hx, by omega, ?_⟩
      have hv0 := pick_0 xs (i + (0 + (j : Int))) (m := 5 - (0 + (j : Int))) (by omega)
      have hv1 := pick_lt xs (i + (0 + (j : Int))) (m := 5 - (0 + (j : Int))) (by omega)
      generalize pick xs (i + (0 + (j : Int))) (5 - (0 + (j : Int))) = v at *
      walk_at "g"
      have hpo := perm_out (l := lf) (p := v.toNat) (by omega) to
      refine ⟨rfl, lf.take v.toNat ++ lf.drop (v.toNat + 1), to ++ [lf.getD v.toNat 0], some (.int (0 + (j : Int))), some (.int v), hpo.trans hp, by simp [h1], by simp [h2]; omega, ?_⟩
      rw [show (v + 1).toNat = v.toNat + 1 by omega]
    · rintro σ H5 ⟨rfl, lf, to, y, z, hp, h1, h2, rfl⟩
      have h1 : to.length = 5 := h1
      have h2 : lf.length = 5 - 5 := h2
      have : lf = [] := List.eq_nil_of_length_eq_zero (by omega)
      subst this
      rw [List.append_nil] at hp
      walk_at "g"
      exact q to (fun c hc => hp.subset hc) (hp.nodup_iff.mpr (by decide)) h1
end
end K13
namespace K13
open PySem PySem.Spec PyProof.Rows L2
local macro_rules | `(tactic| walk_at "con") => `(tactic| first | with_reducible refine Gx.conE K13.ks0 ?_ | with_reducible refine Gx.conE K13.ks1 ?_ | with_reducible refine Gx.conE K13.ks2 ?_ | with_reducible refine Gx.conE K13.ks3 ?_ | with_reducible refine Gx.conE K13.ks4 ?_ | with_reducible refine Gx.conE K13.ks5 ?_ | with_reducible refine Gx.conE K13.ks6 ?_ | with_reducible refine Gx.conE K13.ks7 ?_ | with_reducible refine Gx.conE K13.ks8 ?_ | with_reducible refine Gx.conE K13.ks9 ?_ | with_reducible refine Gx.conE K13.ks10 ?_ | with_reducible refine Gx.conE K13.ks11 ?_ | with_reducible refine Gx.conE K13.ks12 ?_ | with_reducible refine Gx.conE K13.ks13 ?_ | with_reducible refine Gx.conE K13.ks14 ?_ | with_reducible refine Gx.conE K13.ks15 ?_ | with_reducible refine Gx.conE K13.ks16 ?_ | with_reducible refine Gx.conE K13.ks17 ?_ | with_reducible refine Gx.conE K13.ks18 ?_ | with_reducible refine Gx.conE K13.ks19 ?_ | with_reducible refine Gx.conE K13.ks20 ?_ | with_reducible refine Gx.conE K13.ks21 ?_ | with_reducible refine Gx.conE K13.ks22 ?_ | with_reducible refine Gx.conE K13.ks23 ?_ | with_reducible refine Gx.conE K13.ks24 ?_ | with_reducible refine Gx.conE K13.ks25 ?_ | with_reducible refine Gx.conE K13.ks26 ?_ | with_reducible refine Gx.conE K13.ks27 ?_ | with_reducible refine Gx.conE K13.ks28 ?_ | with_reducible refine Gx.conE K13.ks29 ?_ | with_reducible refine Gx.conE K13.ks30 ?_ | with_reducible refine Gx.conE K13.ks31 ?_ | with_reducible refine Gx.conE K13.ks32 ?_ | with_reducible refine Gx.conE K13.ks33 ?_ | with_reducible refine Gx.conE K13.ks34 ?_ | with_reducible refine Gx.conE K13.ks35 ?_ | with_reducible refine Gx.conE K13.ks36 ?_ | with_reducible refine Gx.conE K13.ks37 ?_ | with_reducible refine Gx.conE K13.ks38 ?_ | with_reducible refine Gx.conE K13.ks39 ?_ | with_reducible refine Gx.conE K13.ks40 ?_ | with_reducible refine Gx.conE K13.ks41 ?_ | with_reducible refine Gx.conE K13.ks42 ?_ | with_reducible refine Gx.conE K13.ks43 ?_ | with_reducible refine Gx.conE K13.ks44 ?_ | with_reducible refine Gx.conE K13.ks45 ?_ | with_reducible refine Gx.conE K13.ks46 ?_ | with_reducible refine Gx.conE K13.ks47 ?_ | with_reducible refine Gx.conE K13.ks48 ?_ | with_reducible refine Gx.conE K13.ks49 ?_ | with_reducible refine Gx.conE K13.ks50 ?_ | with_reducible refine Gx.conE K13.ks51 ?_ | with_reducible refine Gx.conE K13.ks52 ?_ | with_reducible refine Gx.conE K13.ks53 ?_ | with_reducible refine Gx.conE K13.ks54 ?_ | with_reducible refine Gx.conE K13.ks55 ?_ | with_reducible refine Gx.conE K13.ks56 ?_ | with_reducible refine Gx.conE K13.ks57 ?_ | with_reducible refine Gx.conE K13.ks58 ?_ | with_reducible refine Gx.conE K13.ks59 ?_ | with_reducible refine Gx.conE K13.ks60 ?_ | with_reducible refine Gx.conE K13.ks61 ?_ | with_reducible refine Gx.conE K13.ks62 ?_ | with_reducible refine Gx.conE K13.ks63 ?_)
section
variable {P : Program} {w : World} {K : PySem.W.Frag} {mg : Str → Option Value} {base : Heap}
def spDraw (K : PySem.W.Frag) (n : Nat) : Sp := fun vs H Q _ => ∃ (b : Addr) (xs : List Int) (i : Int), vs = [.ref b, .int i, .int (n : Nat)] ∧ SqL K H b (xs.map V.int) ∧ 0 < xs.length ∧ ∀ H' x p, Same H H' → Dp K H' (.ref x) (patD p) → Drawn p n → Q (.ref x) H'
theorem G__law_pattern (T : Txt K mg w) : ∀ n, FnOk P w K mg base CX0 (n + 3) T.f__law_pattern T.fd__law_pattern ["numbers", "at", "depth"] (spDraw K n)
  | 0 => by
    have G__law_pick := G__law_pick (P := P) (w := w) (base := base) T
    have G__law_signs := G__law_signs (P := P) (w := w) (base := base) T
    have G__law_word := G__law_word (P := P) (w := w) (base := base) T
    have lv : ∀ (vs : List V) (H : Hp) (Q : VK) (E : XK), spDraw K 0 vs H Q E → vs.length = (["numbers", "at", "depth"] : List Str).length := fun vs H Q E h => by
      obtain ⟨b, xs, i, rfl, _⟩ := h
      rfl
    have G__law_pattern : FnOk P w K mg base CX0 2 T.f__law_pattern T.fd__law_pattern ["numbers", "at", "depth"] (fun _ _ _ _ => False) := ⟨fun _ _ _ _ h => h.elim, fun _ _ _ _ _ _ _ _ _ _ _ _ _ h => h.elim⟩
    refine T.F__law_pattern.ok sc__law_pattern lv (fun cdv A outer s H vs Q E hr h => ?_)
    obtain ⟨b, xs, i, rfl, hX, hx, q⟩ := h
    refine ⟨_, ((pss_cons (ps_set (i := 3) sc__law_pattern.nd rfl (Or.inl rfl) (pe_call G__law_pick (hr.mono (by first | decide | omega)) (by rfl) T.g__law_pick T.F__law_pick.kp T.b__law_pick .nil pass0 (pa_cons (pv 0) (pa_cons (pv 1) (pa_cons pe_int pa_nil)))))
  (pss_cons (ps_if (PW.pt (pw_or (pt_cmpR op_eq (pv 2) pe_int (nomark _)) (pw_or1 (pt_cmpR op_lt (pv 3) pe_int (nomark _)))))
  (pss_cons (ps_if (pt_cmpR op_eq (pe_call G__law_pick (hr.mono (by first | decide | omega)) (by rfl) T.g__law_pick T.F__law_pick.kp T.b__law_pick .nil pass0 (pa_cons (pv 0) (pa_cons (pe_op op_add (pv 1) pe_int) (pa_cons pe_int pa_nil)))) pe_int (nomark _))
  (pss_one (ps_ret (pe_tup (pa_cons pe_str (pa_cons (pe_call G__law_signs (hr.mono (by first | decide | omega)) (by rfl) T.g__law_signs T.F__law_signs.kp T.b__law_signs .nil pass0 (pa_cons (pe_call G__law_pick (hr.mono (by first | decide | omega)) (by rfl) T.g__law_pick T.F__law_pick.kp T.b__law_pick .nil pass0 (pa_cons (pv 0) (pa_cons (pe_op op_add (pv 1) pe_int) (pa_cons pe_int pa_nil)))) pa_nil)) pa_nil)))))
  pss_nil)
  (pss_one (ps_ret (pe_tup (pa_cons pe_str (pa_cons (pe_call G__law_word (hr.mono (by first | decide | omega)) (by rfl) T.g__law_word T.F__law_word.kp T.b__law_word .nil pass0 (pa_cons (pv 0) (pa_cons (pe_op op_add (pv 1) pe_int) pa_nil))) pa_nil))))))
  pss_nil)
  (pss_cons (ps_if (pt_cmpR op_eq (pv 3) pe_int (nomark _))
  (pss_one (ps_ret (pe_tup (pa_cons pe_str (pa_cons (pe_call G__law_pattern (hr.mono (by first | decide | omega)) (by rfl) T.g__law_pattern T.F__law_pattern.kp T.b__law_pattern .nil pass0 (pa_cons (pv 0) (pa_cons (pe_op op_add (pv 1) pe_int) (pa_cons (pe_op op_sub (pv 2) pe_int) pa_nil)))) pa_nil)))))
  pss_nil)
  (pss_cons (ps_set (i := 4) sc__law_pattern.nd rfl (Or.inl rfl) (pe_tup (pa_cons (pe_call G__law_pattern (hr.mono (by first | decide | omega)) (by rfl) T.g__law_pattern T.F__law_pattern.kp T.b__law_pattern .nil pass0 (pa_cons (pv 0) (pa_cons (pe_op op_add (pv 1) pe_int) (pa_cons (pe_op op_sub (pv 2) pe_int) pa_nil)))) (pa_cons (pe_call G__law_pattern (hr.mono (by first | decide | omega)) (by rfl) T.g__law_pattern T.F__law_pattern.kp T.b__law_pattern .nil pass0 (pa_cons (pv 0) (pa_cons (pe_op op_add (pv 1) pe_int) (pa_cons (pe_op op_sub (pv 2) pe_int) pa_nil)))) pa_nil))))
  (pss_cons (ps_if (pt_cmpR op_lt (pv 3) pe_int (nomark _))
  (pss_one (ps_ret (pe_op op_catA (pe_tup (pa_cons pe_str pa_nil)) (pv 4))))
  pss_nil)
  (pss_one (ps_ret (pe_op op_catA (pe_tup (pa_cons pe_str pa_nil)) (pv 4)))))))))), ?_⟩
    clear G__law_pick G__law_signs G__law_word G__law_pattern
    rw [st__law_pattern]
    try dsimp only [cxOf]
    walk_at "g"
    refine ⟨b, xs, _, _, rfl, hX, hx, by omega, ?_⟩
    walk_at "g"
    rw [decide_eq_true (show (((0 : Nat) : Nat) : Int) = 0 from rfl)]
    walk_at "g"
    refine ⟨b, xs, _, _, rfl, hX, hx, by omega, ?_⟩
    walk_at "g"
    refine Gx.iteD (fun _ => ?_) (fun _ => ?_)
    · walk_at "g"
      refine ⟨b, xs, _, _, rfl, hX, hx, by omega, ?_⟩
      have hp0 := pick_0 xs (i + 2) (m := 32) (by omega)
      walk_at "g"
      refine ⟨_, rfl, hp0, fun H1 l s1 hl ne pw ll => ?_⟩
      refine Gx.newT (by simp) fun p H2 E2 => ?_
      have dd : Dp K H2 (.ref p) (patD (.one l)) := .tup (SqT.of E2.at_) (.cons (.str _) (.cons (.str _) .nil))
      exact q _ _ (.one l) (s1.trans E2.same) dd (Drawn.leaf ⟨⟨hl, ne, pw⟩, Nat.le_refl _, by show l.length + 6 ≤ 26; omega, Nat.le_refl _, Nat.le_refl _⟩)
    · walk_at "g"
      refine ⟨b, xs, _, rfl, hX, hx, fun H1 l s1 hl ll => ?_⟩
      refine Gx.newT (by simp) fun p H2 E2 => ?_
      have dd : Dp K H2 (.ref p) (patD (.word l)) := .tup (SqT.of E2.at_) (.cons (.str _) (.cons (.str _) .nil))
      exact q _ _ (.word l) (s1.trans E2.same) dd (Drawn.leaf ⟨hl, Nat.le_refl _, by show l.length + 6 ≤ 26; omega, Nat.le_refl _, Nat.le_refl _⟩)
  | n + 1 => by
    have G__law_pick := G__law_pick (P := P) (w := w) (base := base) T
    have G__law_signs := G__law_signs (P := P) (w := w) (base := base) T
    have G__law_word := G__law_word (P := P) (w := w) (base := base) T
    have lv : ∀ (vs : List V) (H : Hp) (Q : VK) (E : XK), spDraw K (n + 1) vs H Q E → vs.length = (["numbers", "at", "depth"] : List Str).length := fun vs H Q E h => by
      obtain ⟨b, xs, i, rfl, _⟩ := h
      rfl
    have G__law_pattern := G__law_pattern T n
    refine T.F__law_pattern.ok sc__law_pattern lv (fun cdv A outer s H vs Q E hr h => ?_)
    obtain ⟨b, xs, i, rfl, hX, hx, q⟩ := h
    have hdn : (((n + 1 : Nat) : Int) - 1) = ((n : Nat) : Int) := by omega
    refine ⟨_, ((pss_cons (ps_set (i := 3) sc__law_pattern.nd rfl (Or.inl rfl) (pe_call G__law_pick (hr.mono (by first | decide | omega)) (by rfl) T.g__law_pick T.F__law_pick.kp T.b__law_pick .nil pass0 (pa_cons (pv 0) (pa_cons (pv 1) (pa_cons pe_int pa_nil)))))
  (pss_cons (ps_if (PW.pt (pw_or (pt_cmpR op_eq (pv 2) pe_int (nomark _)) (pw_or1 (pt_cmpR op_lt (pv 3) pe_int (nomark _)))))
  (pss_cons (ps_if (pt_cmpR op_eq (pe_call G__law_pick (hr.mono (by first | decide | omega)) (by rfl) T.g__law_pick T.F__law_pick.kp T.b__law_pick .nil pass0 (pa_cons (pv 0) (pa_cons (pe_op op_add (pv 1) pe_int) (pa_cons pe_int pa_nil)))) pe_int (nomark _))
  (pss_one (ps_ret (pe_tup (pa_cons pe_str (pa_cons (pe_call G__law_signs (hr.mono (by first | decide | omega)) (by rfl) T.g__law_signs T.F__law_signs.kp T.b__law_signs .nil pass0 (pa_cons (pe_call G__law_pick (hr.mono (by first | decide | omega)) (by rfl) T.g__law_pick T.F__law_pick.kp T.b__law_pick .nil pass0 (pa_cons (pv 0) (pa_cons (pe_op op_add (pv 1) pe_int) (pa_cons pe_int pa_nil)))) pa_nil)) pa_nil)))))
  pss_nil)
  (pss_one (ps_ret (pe_tup (pa_cons pe_str (pa_cons (pe_call G__law_word (hr.mono (by first | decide | omega)) (by rfl) T.g__law_word T.F__law_word.kp T.b__law_word .nil pass0 (pa_cons (pv 0) (pa_cons (pe_op op_add (pv 1) pe_int) pa_nil))) pa_nil))))))
  pss_nil)
  (pss_cons (ps_if (pt_cmpR op_eq (pv 3) pe_int (nomark _))
  (pss_one (ps_ret (pe_tup (pa_cons pe_str (pa_cons (pe_call G__law_pattern (hr.mono (by first | decide | omega)) (by rfl) T.g__law_pattern T.F__law_pattern.kp T.b__law_pattern .nil pass0 (pa_cons (pv 0) (pa_cons (pe_op op_add (pv 1) pe_int) (pa_cons (pe_op op_sub (pv 2) pe_int) pa_nil)))) pa_nil)))))
  pss_nil)
  (pss_cons (ps_set (i := 4) sc__law_pattern.nd rfl (Or.inl rfl) (pe_tup (pa_cons (pe_call G__law_pattern (hr.mono (by first | decide | omega)) (by rfl) T.g__law_pattern T.F__law_pattern.kp T.b__law_pattern .nil pass0 (pa_cons (pv 0) (pa_cons (pe_op op_add (pv 1) pe_int) (pa_cons (pe_op op_sub (pv 2) pe_int) pa_nil)))) (pa_cons (pe_call G__law_pattern (hr.mono (by first | decide | omega)) (by rfl) T.g__law_pattern T.F__law_pattern.kp T.b__law_pattern .nil pass0 (pa_cons (pv 0) (pa_cons (pe_op op_add (pv 1) pe_int) (pa_cons (pe_op op_sub (pv 2) pe_int) pa_nil)))) pa_nil))))
  (pss_cons (ps_if (pt_cmpR op_lt (pv 3) pe_int (nomark _))
  (pss_one (ps_ret (pe_op op_catA (pe_tup (pa_cons pe_str pa_nil)) (pv 4))))
  pss_nil)
  (pss_one (ps_ret (pe_op op_catA (pe_tup (pa_cons pe_str pa_nil)) (pv 4)))))))))), ?_⟩
    clear G__law_pick G__law_signs G__law_word G__law_pattern
    rw [st__law_pattern]
    try dsimp only [cxOf]
    walk_at "g"
    refine ⟨b, xs, _, _, rfl, hX, hx, by omega, ?_⟩
    generalize pick xs _ 7 = sh
    walk_at "g"
    rw [decide_eq_false (show ¬ (((n + 1 : Nat) : Nat) : Int) = 0 by omega)]
    walk_at "g"
    refine Gx.iteD (fun h0 => ?_) (fun h0 => ?_)
    · walk_at "g"
      refine ⟨b, xs, _, _, rfl, hX, hx, by omega, ?_⟩
      walk_at "g"
      refine Gx.iteD (fun _ => ?_) (fun _ => ?_)
      · walk_at "g"
        refine ⟨b, xs, _, _, rfl, hX, hx, by omega, ?_⟩
        have hp0 := pick_0 xs (i + 2) (m := 32) (by omega)
        walk_at "g"
        refine ⟨_, rfl, hp0, fun H1 l s1 hl ne pw ll => ?_⟩
        refine Gx.newT (by simp) fun p H2 E2 => ?_
        have dd : Dp K H2 (.ref p) (patD (.one l)) := .tup (SqT.of E2.at_) (.cons (.str _) (.cons (.str _) .nil))
        exact q _ _ (.one l) (s1.trans E2.same) dd (Drawn.leaf ⟨⟨hl, ne, pw⟩, Nat.le_refl _, by show l.length + 6 ≤ 26; omega, Nat.le_refl _, Nat.le_refl _⟩)
      · walk_at "g"
        refine ⟨b, xs, _, rfl, hX, hx, fun H1 l s1 hl ll => ?_⟩
        refine Gx.newT (by simp) fun p H2 E2 => ?_
        have dd : Dp K H2 (.ref p) (patD (.word l)) := .tup (SqT.of E2.at_) (.cons (.str _) (.cons (.str _) .nil))
        exact q _ _ (.word l) (s1.trans E2.same) dd (Drawn.leaf ⟨hl, Nat.le_refl _, by show l.length + 6 ≤ 26; omega, Nat.le_refl _, Nat.le_refl _⟩)
    · walk_at "g"
      refine Gx.iteD (fun h1 => ?_) (fun h1 => ?_)
      · walk_at "g"
        refine ⟨b, xs, _, by rw [hdn], hX, hx, fun H1 x p s1 dp dr => ?_⟩
        refine Gx.newT (by simp) fun t H2 E2 => ?_
        exact q H2 t (.star p) (s1.trans E2.same) (.tup (SqT.of E2.at_) (.cons (.str _) (.cons (Gx.dp_same E2.same _ _ dp) .nil))) dr.star
      · walk_at "g"
        refine ⟨b, xs, _, by rw [hdn], hX, hx, fun H1 x1 p1 s1 dp1 dr1 => ?_⟩
        walk_at "g"
        refine ⟨b, xs, _, by rw [hdn], s1.seq hX, hx, fun H2 x2 p2 s2 dp2 dr2 => ?_⟩
        walk_at "g"
        refine Gx.newT (by show 2 ≤ 16777216; decide) fun t H3 E3 => ?_
        have dp1' := Gx.dp_same (s2.trans E3.same) _ _ dp1
        have dp2' := Gx.dp_same E3.same _ _ dp2
        have s03 := s1.trans (s2.trans E3.same)
        walk_at "g"
        refine Gx.iteD (fun h2 => ?_) (fun h2 => ?_)
        · walk_at "g"
          refine Gx.newT (by simp) fun t1 H4 E4 => ?_
          walk_at "g"
          refine Gx.catA (SqT.of E4.at_) (E4.same.seqT (SqT.of E3.at_)) (by simp) fun t5 H5 s5 h5 => ?_
          exact q H5 t5 (.two true p1 p2) (s03.trans (E4.same.trans s5)) (.tup h5 (.cons (.str _) (.cons (Gx.dp_same (E4.same.trans s5) _ _ dp1') (.cons (Gx.dp_same (E4.same.trans s5) _ _ dp2') .nil)))) (dr1.two dr2)
        · walk_at "g"
          refine Gx.newT (by simp) fun t1 H4 E4 => ?_
          walk_at "g"
          refine Gx.catA (SqT.of E4.at_) (E4.same.seqT (SqT.of E3.at_)) (by simp) fun t5 H5 s5 h5 => ?_
          exact q H5 t5 (.two false p1 p2) (s03.trans (E4.same.trans s5)) (.tup h5 (.cons (.str _) (.cons (Gx.dp_same (E4.same.trans s5) _ _ dp1') (.cons (Gx.dp_same (E4.same.trans s5) _ _ dp2') .nil)))) (dr1.two dr2)
end
end K13
namespace K13
open PySem PySem.Spec PyProof.Rows L2
local macro_rules | `(tactic| walk_at "con") => `(tactic| first | with_reducible refine Gx.conE K13.ks0 ?_ | with_reducible refine Gx.conE K13.ks1 ?_ | with_reducible refine Gx.conE K13.ks2 ?_ | with_reducible refine Gx.conE K13.ks3 ?_ | with_reducible refine Gx.conE K13.ks4 ?_ | with_reducible refine Gx.conE K13.ks5 ?_ | with_reducible refine Gx.conE K13.ks6 ?_ | with_reducible refine Gx.conE K13.ks7 ?_ | with_reducible refine Gx.conE K13.ks8 ?_ | with_reducible refine Gx.conE K13.ks9 ?_ | with_reducible refine Gx.conE K13.ks10 ?_ | with_reducible refine Gx.conE K13.ks11 ?_ | with_reducible refine Gx.conE K13.ks12 ?_ | with_reducible refine Gx.conE K13.ks13 ?_ | with_reducible refine Gx.conE K13.ks14 ?_ | with_reducible refine Gx.conE K13.ks15 ?_ | with_reducible refine Gx.conE K13.ks16 ?_ | with_reducible refine Gx.conE K13.ks17 ?_ | with_reducible refine Gx.conE K13.ks18 ?_ | with_reducible refine Gx.conE K13.ks19 ?_ | with_reducible refine Gx.conE K13.ks20 ?_ | with_reducible refine Gx.conE K13.ks21 ?_ | with_reducible refine Gx.conE K13.ks22 ?_ | with_reducible refine Gx.conE K13.ks23 ?_ | with_reducible refine Gx.conE K13.ks24 ?_ | with_reducible refine Gx.conE K13.ks25 ?_ | with_reducible refine Gx.conE K13.ks26 ?_ | with_reducible refine Gx.conE K13.ks27 ?_ | with_reducible refine Gx.conE K13.ks28 ?_ | with_reducible refine Gx.conE K13.ks29 ?_ | with_reducible refine Gx.conE K13.ks30 ?_ | with_reducible refine Gx.conE K13.ks31 ?_ | with_reducible refine Gx.conE K13.ks32 ?_ | with_reducible refine Gx.conE K13.ks33 ?_ | with_reducible refine Gx.conE K13.ks34 ?_ | with_reducible refine Gx.conE K13.ks35 ?_ | with_reducible refine Gx.conE K13.ks36 ?_ | with_reducible refine Gx.conE K13.ks37 ?_ | with_reducible refine Gx.conE K13.ks38 ?_ | with_reducible refine Gx.conE K13.ks39 ?_ | with_reducible refine Gx.conE K13.ks40 ?_ | with_reducible refine Gx.conE K13.ks41 ?_ | with_reducible refine Gx.conE K13.ks42 ?_ | with_reducible refine Gx.conE K13.ks43 ?_ | with_reducible refine Gx.conE K13.ks44 ?_ | with_reducible refine Gx.conE K13.ks45 ?_ | with_reducible refine Gx.conE K13.ks46 ?_ | with_reducible refine Gx.conE K13.ks47 ?_ | with_reducible refine Gx.conE K13.ks48 ?_ | with_reducible refine Gx.conE K13.ks49 ?_ | with_reducible refine Gx.conE K13.ks50 ?_ | with_reducible refine Gx.conE K13.ks51 ?_ | with_reducible refine Gx.conE K13.ks52 ?_ | with_reducible refine Gx.conE K13.ks53 ?_ | with_reducible refine Gx.conE K13.ks54 ?_ | with_reducible refine Gx.conE K13.ks55 ?_ | with_reducible refine Gx.conE K13.ks56 ?_ | with_reducible refine Gx.conE K13.ks57 ?_ | with_reducible refine Gx.conE K13.ks58 ?_ | with_reducible refine Gx.conE K13.ks59 ?_ | with_reducible refine Gx.conE K13.ks60 ?_ | with_reducible refine Gx.conE K13.ks61 ?_ | with_reducible refine Gx.conE K13.ks62 ?_ | with_reducible refine Gx.conE K13.ks63 ?_)
section
variable {P : Program} {w : World} {K : PySem.W.Frag} {mg : Str → Option Value} {base : Heap}
/-- the heaviest pattern -/
def Ln.mw : Ln → Nat
  | .copy p => p.wt
  | .swap p _ => p.wt
  | .hide p _ _ => p.wt
  | .again t => t.mw
  | .two _ t u => max t.mw u.mw
def bL : Nat → Nat
  | 0 => 173
  | n + 1 => 2 * bL n + 8
structure DrawnL (t : Ln) (n : Nat) : Prop where
  rd : t.rd
  nest : t.nest ≤ n
  pd : t.pd ≤ 3
  sz : t.sz ≤ bL n
  mw : t.mw ≤ 4
theorem DrawnL.leaf : ∀ {t : Ln} {n : Nat}, DrawnL t 0 → DrawnL t n
  | t, 0, h => h
  | t, n + 1, h => by
    have ih := DrawnL.leaf (n := n) h
    exact ⟨ih.rd, Nat.le_succ_of_le ih.nest, ih.pd, by have := ih.sz; show _ ≤ 2 * bL n + 8; omega, ih.mw⟩
theorem DrawnL.again {t : Ln} {n : Nat} (h : DrawnL t n) : DrawnL (.again t) (n + 1) :=
  ⟨h.rd, Nat.succ_le_succ h.nest, h.pd, by have := h.sz; show t.sz + 8 ≤ 2 * bL n + 8; omega, h.mw⟩
theorem DrawnL.two {k : Nat} {t u : Ln} {n : Nat} (hk : k < 4) (h : DrawnL t n) (g : DrawnL u n) : DrawnL (.two k t u) (n + 1) :=
  ⟨⟨hk, h.rd, g.rd⟩, Nat.succ_le_succ (Nat.max_le.mpr ⟨h.nest, g.nest⟩), Nat.max_le.mpr ⟨h.pd, g.pd⟩, by have := h.sz; have := g.sz; show t.sz + u.sz + 8 ≤ 2 * bL n + 8; omega, Nat.max_le.mpr ⟨h.mw, g.mw⟩⟩
theorem Drawn.copy {p : Pat} (h : Drawn p 2) : DrawnL (.copy p) 0 :=
  ⟨⟨h.rd, h.cb⟩, Nat.le_refl _, h.dp, by have : p.sz2 ≤ 125 := h.sz; show p.sz2 + 8 ≤ 173; omega, h.wt⟩
theorem Drawn.swap {p : Pat} {to : List Nat} (h : Drawn p 2) (h1 : Sg to) (h2 : to.Nodup) (h3 : to.length = 5) : DrawnL (.swap p to) 0 :=
  ⟨⟨h.rd, h.cb, h1, h2, h3⟩, Nat.le_refl _, h.dp, by have : p.sz2 ≤ 125 := h.sz; show p.sz2 + to.length + 8 ≤ 173; omega, h.wt⟩
theorem Drawn.hide {p : Pat} {a b : List Nat} (h : Drawn p 2) (h1 : Sg a) (h2 : Sg b) (h3 : a.length ≤ 20) (h4 : b.length ≤ 20) : DrawnL (.hide p a b) 0 :=
  ⟨⟨h.rd, h.cb, h1, h2⟩, Nat.le_refl _, h.dp, by have : p.sz2 ≤ 125 := h.sz; show p.sz2 + a.length + b.length + 8 ≤ 173; omega, h.wt⟩
theorem two4 {v : Nat} (h : v < 4) : ([V.str (Gx.mkS [116, 104, 101, 110]), V.str (Gx.mkS [111, 114]), V.str (Gx.mkS [107, 101, 121, 101, 100]), V.str (Gx.mkS [97, 102, 116, 101, 114])])[v]? = some (V.str (Gx.mkS (twoS v))) := by
  match v, h with
  | 0, _ => rfl
  | 1, _ => rfl
  | 2, _ => rfl
  | 3, _ => rfl
def spTree (K : PySem.W.Frag) (n : Nat) : Sp := fun vs H Q _ => ∃ (b : Addr) (xs : List Int) (i : Int), vs = [.ref b, .int i, .int (n : Nat)] ∧ SqL K H b (xs.map V.int) ∧ 0 < xs.length ∧ ∀ H' x t, Same H H' → Dp K H' (.ref x) (lnD t) → DrawnL t n → Q (.ref x) H'
set_option maxHeartbeats 4000000 in
theorem G__law_tree (T : Txt K mg w) : ∀ n, FnOk P w K mg base CX0 (n + 6) T.f__law_tree T.fd__law_tree ["numbers", "node", "depth"] (spTree K n)
  | 0 => by
    have G__law_pick := G__law_pick (P := P) (w := w) (base := base) T
    have G__law_word := G__law_word (P := P) (w := w) (base := base) T
    have G__law_renaming := G__law_renaming (P := P) (w := w) (base := base) T
    have G__law_pattern := G__law_pattern (P := P) (w := w) (base := base) T 2
    have lv : ∀ (vs : List V) (H : Hp) (Q : VK) (E : XK), spTree K 0 vs H Q E → vs.length = (["numbers", "node", "depth"] : List Str).length := fun vs H Q E h => by
      obtain ⟨b, xs, i, rfl, _⟩ := h
      rfl
    have G__law_tree : FnOk P w K mg base CX0 5 T.f__law_tree T.fd__law_tree ["numbers", "node", "depth"] (fun _ _ _ _ => False) := ⟨fun _ _ _ _ h => h.elim, fun _ _ _ _ _ _ _ _ _ _ _ _ _ h => h.elim⟩
    refine T.F__law_tree.ok sc__law_tree lv (fun cdv A outer s H vs Q E hr h => ?_)
    obtain ⟨b, xs, i, rfl, hX, hx, q⟩ := h
    refine ⟨_, ((pss_cons (ps_set (i := 3) sc__law_tree.nd rfl (Or.inl rfl) (pe_op op_add pe_int (pe_op op_mul pe_int (pv 1))))
  (pss_cons (ps_set (i := 4) sc__law_tree.nd rfl (Or.inl rfl) (pe_call G__law_pick (hr.mono (by first | decide | omega)) (by rfl) T.g__law_pick T.F__law_pick.kp T.b__law_pick .nil pass0 (pa_cons (pv 0) (pa_cons (pv 3) (pa_cons pe_int pa_nil)))))
  (pss_cons (ps_if (PW.pt (pw_and (pt_cmpR op_gt (pv 2) pe_int (nomark _)) (pw_and1 (pt_cmpR op_eq (pv 4) pe_int (nomark _)))))
  (pss_one (ps_ret (pe_tup (pa_cons pe_str (pa_cons (pe_call G__law_tree (hr.mono (by first | decide | omega)) (by rfl) T.g__law_tree T.F__law_tree.kp T.b__law_tree .nil pass0 (pa_cons (pv 0) (pa_cons (pe_op op_add (pe_op op_mul pe_int (pv 1)) pe_int) (pa_cons (pe_op op_sub (pv 2) pe_int) pa_nil)))) pa_nil)))))
  pss_nil)
  (pss_cons (ps_if (PW.pt (pw_and (pt_cmpR op_gt (pv 2) pe_int (nomark _)) (pw_and1 (pt_cmpR op_gt (pv 4) pe_int (nomark _)))))
  (pss_cons (ps_set (i := 5) sc__law_tree.nd rfl (Or.inl rfl) (pe_tup (pa_cons (pe_call G__law_tree (hr.mono (by first | decide | omega)) (by rfl) T.g__law_tree T.F__law_tree.kp T.b__law_tree .nil pass0 (pa_cons (pv 0) (pa_cons (pe_op op_add (pe_op op_mul pe_int (pv 1)) pe_int) (pa_cons (pe_op op_sub (pv 2) pe_int) pa_nil)))) (pa_cons (pe_call G__law_tree (hr.mono (by first | decide | omega)) (by rfl) T.g__law_tree T.F__law_tree.kp T.b__law_tree .nil pass0 (pa_cons (pv 0) (pa_cons (pe_op op_add (pe_op op_mul pe_int (pv 1)) pe_int) (pa_cons (pe_op op_sub (pv 2) pe_int) pa_nil)))) pa_nil))))
  (pss_one (ps_ret (pe_op op_catA (pe_tup (pa_cons (pe_ix ix_list (pe_lst (pa_cons pe_str (pa_cons pe_str (pa_cons pe_str (pa_cons pe_str pa_nil))))) (pe_call G__law_pick (hr.mono (by first | decide | omega)) (by rfl) T.g__law_pick T.F__law_pick.kp T.b__law_pick .nil pass0 (pa_cons (pv 0) (pa_cons (pe_op op_add (pv 3) pe_int) (pa_cons pe_int pa_nil)))) (fun _ _ => rfl)) pa_nil)) (pv 5)))))
  pss_nil)
  (pss_cons (ps_set (i := 6) sc__law_tree.nd rfl (Or.inl rfl) (pe_call G__law_pattern (hr.mono (by first | decide | omega)) (by rfl) T.g__law_pattern T.F__law_pattern.kp T.b__law_pattern .nil pass0 (pa_cons (pv 0) (pa_cons (pe_op op_add (pv 3) pe_int) (pa_cons pe_int pa_nil)))))
  (pss_cons (ps_set (i := 7) sc__law_tree.nd rfl (Or.inl rfl) (pe_call G__law_pick (hr.mono (by first | decide | omega)) (by rfl) T.g__law_pick T.F__law_pick.kp T.b__law_pick .nil pass0 (pa_cons (pv 0) (pa_cons (pe_op op_add (pv 3) pe_int) (pa_cons pe_int pa_nil)))))
  (pss_cons (ps_if (pt_cmpR op_eq (pv 7) pe_int (nomark _))
  (pss_one (ps_ret (pe_tup (pa_cons pe_str (pa_cons (pv 6) pa_nil)))))
  pss_nil)
  (pss_cons (ps_if (pt_cmpR op_eq (pv 7) pe_int (nomark _))
  (pss_one (ps_ret (pe_tup (pa_cons pe_str (pa_cons (pv 6) (pa_cons (pe_call G__law_renaming (hr.mono (by first | decide | omega)) (by rfl) T.g__law_renaming T.F__law_renaming.kp T.b__law_renaming .nil pass0 (pa_cons (pv 0) (pa_cons (pe_op op_add (pv 3) pe_int) pa_nil))) pa_nil))))))
  pss_nil)
  (pss_one (ps_ret (pe_tup (pa_cons pe_str (pa_cons (pv 6) (pa_cons (pe_call G__law_word (hr.mono (by first | decide | omega)) (by rfl) T.g__law_word T.F__law_word.kp T.b__law_word .nil pass0 (pa_cons (pv 0) (pa_cons (pe_op op_add (pv 3) pe_int) pa_nil))) (pa_cons (pe_call G__law_word (hr.mono (by first | decide | omega)) (by rfl) T.g__law_word T.F__law_word.kp T.b__law_word .nil pass0 (pa_cons (pv 0) (pa_cons (pe_op op_add (pv 3) pe_int) pa_nil))) pa_nil)))))))))))))))), ?_⟩
    clear G__law_pick G__law_word G__law_renaming G__law_pattern G__law_tree
    rw [st__law_tree]
    try dsimp only [cxOf]
    walk_at "g"
    refine ⟨b, xs, _, _, rfl, hX, hx, by omega, ?_⟩
    generalize pick xs _ 9 = sh
    walk_at "g"
    rw [decide_eq_false (show ¬ (((0 : Nat) : Nat) : Int) > 0 by omega)]
    walk_at "g"
    rw [decide_eq_false (show ¬ (((0 : Nat) : Nat) : Int) > 0 by omega)]
    walk_at "g"
    refine ⟨b, xs, _, rfl, hX, hx, fun H1 x p s1 dp dr => ?_⟩
    have hX1 := s1.seq hX
    walk_at "g"
    refine ⟨b, xs, _, _, rfl, hX1, hx, by omega, ?_⟩
    generalize pick xs _ 3 = kd
    walk_at "g"
    refine Gx.iteD (fun _ => ?_) (fun _ => ?_)
    · walk_at "g"
      refine Gx.newT (by simp) fun a H2 E2 => ?_
      exact q H2 a (.copy p) (s1.trans E2.same) (.tup (SqT.of E2.at_) (.cons (.str _) (.cons (Gx.dp_same E2.same _ _ dp) .nil))) dr.copy.leaf
    · walk_at "g"
      refine Gx.iteD (fun _ => ?_) (fun _ => ?_)
      · walk_at "g"
        refine ⟨b, xs, _, rfl, hX1, hx, fun to h1 h2 h3 => ?_⟩
        refine Gx.newT (by simp) fun a H2 E2 => ?_
        exact q H2 a (.swap p to) (s1.trans E2.same) (.tup (SqT.of E2.at_) (.cons (.str _) (.cons (Gx.dp_same E2.same _ _ dp) (.cons (.str _) .nil)))) (dr.swap h1 h2 h3).leaf
      · walk_at "g"
        refine ⟨b, xs, _, rfl, hX1, hx, fun H2 u s2 hu1 hu2 => ?_⟩
        walk_at "g"
        refine ⟨b, xs, _, rfl, s2.seq hX1, hx, fun H3 v s3 hv1 hv2 => ?_⟩
        refine Gx.newT (by simp) fun a H4 E4 => ?_
        have s4 := s2.trans (s3.trans E4.same)
        exact q H4 a (.hide p u v) (s1.trans s4) (.tup (SqT.of E4.at_) (.cons (.str _) (.cons (Gx.dp_same s4 _ _ dp) (.cons (.str _) (.cons (.str _) .nil))))) (dr.hide hu1 hv1 hu2 hv2).leaf
  | n + 1 => by
    have G__law_pick := G__law_pick (P := P) (w := w) (base := base) T
    have G__law_word := G__law_word (P := P) (w := w) (base := base) T
    have G__law_renaming := G__law_renaming (P := P) (w := w) (base := base) T
    have G__law_pattern := G__law_pattern (P := P) (w := w) (base := base) T 2
    have lv : ∀ (vs : List V) (H : Hp) (Q : VK) (E : XK), spTree K (n + 1) vs H Q E → vs.length = (["numbers", "node", "depth"] : List Str).length := fun vs H Q E h => by
      obtain ⟨b, xs, i, rfl, _⟩ := h
      rfl
    have G__law_tree := G__law_tree T n
    have hdn : (((n + 1 : Nat) : Int) - 1) = ((n : Nat) : Int) := by omega
    refine T.F__law_tree.ok sc__law_tree lv (fun cdv A outer s H vs Q E hr h => ?_)
    obtain ⟨b, xs, i, rfl, hX, hx, q⟩ := h
    refine ⟨_, ((pss_cons (ps_set (i := 3) sc__law_tree.nd rfl (Or.inl rfl) (pe_op op_add pe_int (pe_op op_mul pe_int (pv 1))))
  (pss_cons (ps_set (i := 4) sc__law_tree.nd rfl (Or.inl rfl) (pe_call G__law_pick (hr.mono (by first | decide | omega)) (by rfl) T.g__law_pick T.F__law_pick.kp T.b__law_pick .nil pass0 (pa_cons (pv 0) (pa_cons (pv 3) (pa_cons pe_int pa_nil)))))
  (pss_cons (ps_if (PW.pt (pw_and (pt_cmpR op_gt (pv 2) pe_int (nomark _)) (pw_and1 (pt_cmpR op_eq (pv 4) pe_int (nomark _)))))
  (pss_one (ps_ret (pe_tup (pa_cons pe_str (pa_cons (pe_call G__law_tree (hr.mono (by first | decide | omega)) (by rfl) T.g__law_tree T.F__law_tree.kp T.b__law_tree .nil pass0 (pa_cons (pv 0) (pa_cons (pe_op op_add (pe_op op_mul pe_int (pv 1)) pe_int) (pa_cons (pe_op op_sub (pv 2) pe_int) pa_nil)))) pa_nil)))))
  pss_nil)
  (pss_cons (ps_if (PW.pt (pw_and (pt_cmpR op_gt (pv 2) pe_int (nomark _)) (pw_and1 (pt_cmpR op_gt (pv 4) pe_int (nomark _)))))
  (pss_cons (ps_set (i := 5) sc__law_tree.nd rfl (Or.inl rfl) (pe_tup (pa_cons (pe_call G__law_tree (hr.mono (by first | decide | omega)) (by rfl) T.g__law_tree T.F__law_tree.kp T.b__law_tree .nil pass0 (pa_cons (pv 0) (pa_cons (pe_op op_add (pe_op op_mul pe_int (pv 1)) pe_int) (pa_cons (pe_op op_sub (pv 2) pe_int) pa_nil)))) (pa_cons (pe_call G__law_tree (hr.mono (by first | decide | omega)) (by rfl) T.g__law_tree T.F__law_tree.kp T.b__law_tree .nil pass0 (pa_cons (pv 0) (pa_cons (pe_op op_add (pe_op op_mul pe_int (pv 1)) pe_int) (pa_cons (pe_op op_sub (pv 2) pe_int) pa_nil)))) pa_nil))))
  (pss_one (ps_ret (pe_op op_catA (pe_tup (pa_cons (pe_ix ix_list (pe_lst (pa_cons pe_str (pa_cons pe_str (pa_cons pe_str (pa_cons pe_str pa_nil))))) (pe_call G__law_pick (hr.mono (by first | decide | omega)) (by rfl) T.g__law_pick T.F__law_pick.kp T.b__law_pick .nil pass0 (pa_cons (pv 0) (pa_cons (pe_op op_add (pv 3) pe_int) (pa_cons pe_int pa_nil)))) (fun _ _ => rfl)) pa_nil)) (pv 5)))))
  pss_nil)
  (pss_cons (ps_set (i := 6) sc__law_tree.nd rfl (Or.inl rfl) (pe_call G__law_pattern (hr.mono (by first | decide | omega)) (by rfl) T.g__law_pattern T.F__law_pattern.kp T.b__law_pattern .nil pass0 (pa_cons (pv 0) (pa_cons (pe_op op_add (pv 3) pe_int) (pa_cons pe_int pa_nil)))))
  (pss_cons (ps_set (i := 7) sc__law_tree.nd rfl (Or.inl rfl) (pe_call G__law_pick (hr.mono (by first | decide | omega)) (by rfl) T.g__law_pick T.F__law_pick.kp T.b__law_pick .nil pass0 (pa_cons (pv 0) (pa_cons (pe_op op_add (pv 3) pe_int) (pa_cons pe_int pa_nil)))))
  (pss_cons (ps_if (pt_cmpR op_eq (pv 7) pe_int (nomark _))
  (pss_one (ps_ret (pe_tup (pa_cons pe_str (pa_cons (pv 6) pa_nil)))))
  pss_nil)
  (pss_cons (ps_if (pt_cmpR op_eq (pv 7) pe_int (nomark _))
  (pss_one (ps_ret (pe_tup (pa_cons pe_str (pa_cons (pv 6) (pa_cons (pe_call G__law_renaming (hr.mono (by first | decide | omega)) (by rfl) T.g__law_renaming T.F__law_renaming.kp T.b__law_renaming .nil pass0 (pa_cons (pv 0) (pa_cons (pe_op op_add (pv 3) pe_int) pa_nil))) pa_nil))))))
  pss_nil)
  (pss_one (ps_ret (pe_tup (pa_cons pe_str (pa_cons (pv 6) (pa_cons (pe_call G__law_word (hr.mono (by first | decide | omega)) (by rfl) T.g__law_word T.F__law_word.kp T.b__law_word .nil pass0 (pa_cons (pv 0) (pa_cons (pe_op op_add (pv 3) pe_int) pa_nil))) (pa_cons (pe_call G__law_word (hr.mono (by first | decide | omega)) (by rfl) T.g__law_word T.F__law_word.kp T.b__law_word .nil pass0 (pa_cons (pv 0) (pa_cons (pe_op op_add (pv 3) pe_int) pa_nil))) pa_nil)))))))))))))))), ?_⟩
    clear G__law_pick G__law_word G__law_renaming G__law_pattern G__law_tree
    rw [st__law_tree]
    try dsimp only [cxOf]
    walk_at "g"
    refine ⟨b, xs, _, _, rfl, hX, hx, by omega, ?_⟩
    generalize pick xs _ 9 = sh
    walk_at "g"
    rw [decide_eq_true (show (((n + 1 : Nat) : Nat) : Int) > 0 by omega)]
    walk_at "g"
    refine Gx.iteD (fun h0 => ?_) (fun h0 => ?_)
    · walk_at "g"
      refine ⟨b, xs, _, by rw [hdn], hX, hx, fun H1 x t s1 dt dr => ?_⟩
      refine Gx.newT (by simp) fun a H2 E2 => ?_
      exact q H2 a (.again t) (s1.trans E2.same) (.tup (SqT.of E2.at_) (.cons (.str _) (.cons (Gx.dp_same E2.same _ _ dt) .nil))) dr.again
    · walk_at "g"
      rw [decide_eq_true (show (((n + 1 : Nat) : Nat) : Int) > 0 by omega)]
      walk_at "g"
      refine Gx.iteD (fun h1 => ?_) (fun h1 => ?_)
      · walk_at "g"
        refine ⟨b, xs, _, by rw [hdn], hX, hx, fun H1 x1 t1 s1 dt1 dr1 => ?_⟩
        walk_at "g"
        refine ⟨b, xs, _, by rw [hdn], s1.seq hX, hx, fun H2 x2 t2 s2 dt2 dr2 => ?_⟩
        walk_at "g"
        refine Gx.newT (by show 2 ≤ 16777216; decide) fun a H3 E3 => ?_
        have s03 := s1.trans (s2.trans E3.same)
        walk_at "g"
        refine Gx.newL (by simp) fun D H4 E4 => ?_
        walk_at "g"
        refine ⟨b, xs, _, _, rfl, (s03.trans E4.same).seq hX, hx, by omega, ?_⟩
        have hv0 := pick_0 xs (5 + 20 * i + 1) (m := 4) (by omega)
        have hv1 := pick_lt xs (5 + 20 * i + 1) (m := 4) (by omega)
        generalize pick xs (5 + 20 * i + 1) 4 = v at *
        refine Gx.ixL (SqL.of E4.at_) (Gx.atI_of (k := v.toNat) (by omega) (two4 (by omega))) ?_
        walk_at "g"
        refine Gx.newT (by simp) fun a1 H5 E5 => ?_
        walk_at "g"
        refine Gx.catA (SqT.of E5.at_) ((E4.same.trans E5.same).seqT (SqT.of E3.at_)) (by simp) fun a5 H6 s6 h6 => ?_
        have s36 := E4.same.trans (E5.same.trans s6)
        exact q H6 a5 (.two v.toNat t1 t2) (s03.trans s36) (.tup h6 (.cons (.str _) (.cons (Gx.dp_same (s2.trans (E3.same.trans s36)) _ _ dt1) (.cons (Gx.dp_same (E3.same.trans s36) _ _ dt2) .nil)))) (DrawnL.two (by omega) dr1 dr2)
      · walk_at "g"
        refine ⟨b, xs, _, rfl, hX, hx, fun H1 x p s1 dp dr => ?_⟩
        have hX1 := s1.seq hX
        walk_at "g"
        refine ⟨b, xs, _, _, rfl, hX1, hx, by omega, ?_⟩
        generalize pick xs _ 3 = kd
        walk_at "g"
        refine Gx.iteD (fun _ => ?_) (fun _ => ?_)
        · walk_at "g"
          refine Gx.newT (by simp) fun a H2 E2 => ?_
          exact q H2 a (.copy p) (s1.trans E2.same) (.tup (SqT.of E2.at_) (.cons (.str _) (.cons (Gx.dp_same E2.same _ _ dp) .nil))) dr.copy.leaf
        · walk_at "g"
          refine Gx.iteD (fun _ => ?_) (fun _ => ?_)
          · walk_at "g"
            refine ⟨b, xs, _, rfl, hX1, hx, fun to h1 h2 h3 => ?_⟩
            refine Gx.newT (by simp) fun a H2 E2 => ?_
            exact q H2 a (.swap p to) (s1.trans E2.same) (.tup (SqT.of E2.at_) (.cons (.str _) (.cons (Gx.dp_same E2.same _ _ dp) (.cons (.str _) .nil)))) (dr.swap h1 h2 h3).leaf
          · walk_at "g"
            refine ⟨b, xs, _, rfl, hX1, hx, fun H2 u s2 hu1 hu2 => ?_⟩
            walk_at "g"
            refine ⟨b, xs, _, rfl, s2.seq hX1, hx, fun H3 v s3 hv1 hv2 => ?_⟩
            refine Gx.newT (by simp) fun a H4 E4 => ?_
            have s4 := s2.trans (s3.trans E4.same)
            exact q H4 a (.hide p u v) (s1.trans s4) (.tup (SqT.of E4.at_) (.cons (.str _) (.cons (Gx.dp_same s4 _ _ dp) (.cons (.str _) (.cons (.str _) .nil))))) (dr.hide hu1 hv1 hu2 hv2).leaf
end
end K13
namespace K13
open PySem PySem.Spec PyProof.Rows L2
local macro_rules | `(tactic| walk_at "con") => `(tactic| first | with_reducible refine Gx.conE K13.ks0 ?_ | with_reducible refine Gx.conE K13.ks1 ?_ | with_reducible refine Gx.conE K13.ks2 ?_ | with_reducible refine Gx.conE K13.ks3 ?_ | with_reducible refine Gx.conE K13.ks4 ?_ | with_reducible refine Gx.conE K13.ks5 ?_ | with_reducible refine Gx.conE K13.ks6 ?_ | with_reducible refine Gx.conE K13.ks7 ?_ | with_reducible refine Gx.conE K13.ks8 ?_ | with_reducible refine Gx.conE K13.ks9 ?_ | with_reducible refine Gx.conE K13.ks10 ?_ | with_reducible refine Gx.conE K13.ks11 ?_ | with_reducible refine Gx.conE K13.ks12 ?_ | with_reducible refine Gx.conE K13.ks13 ?_ | with_reducible refine Gx.conE K13.ks14 ?_ | with_reducible refine Gx.conE K13.ks15 ?_ | with_reducible refine Gx.conE K13.ks16 ?_ | with_reducible refine Gx.conE K13.ks17 ?_ | with_reducible refine Gx.conE K13.ks18 ?_ | with_reducible refine Gx.conE K13.ks19 ?_ | with_reducible refine Gx.conE K13.ks20 ?_ | with_reducible refine Gx.conE K13.ks21 ?_ | with_reducible refine Gx.conE K13.ks22 ?_ | with_reducible refine Gx.conE K13.ks23 ?_ | with_reducible refine Gx.conE K13.ks24 ?_ | with_reducible refine Gx.conE K13.ks25 ?_ | with_reducible refine Gx.conE K13.ks26 ?_ | with_reducible refine Gx.conE K13.ks27 ?_ | with_reducible refine Gx.conE K13.ks28 ?_ | with_reducible refine Gx.conE K13.ks29 ?_ | with_reducible refine Gx.conE K13.ks30 ?_ | with_reducible refine Gx.conE K13.ks31 ?_ | with_reducible refine Gx.conE K13.ks32 ?_ | with_reducible refine Gx.conE K13.ks33 ?_ | with_reducible refine Gx.conE K13.ks34 ?_ | with_reducible refine Gx.conE K13.ks35 ?_ | with_reducible refine Gx.conE K13.ks36 ?_ | with_reducible refine Gx.conE K13.ks37 ?_ | with_reducible refine Gx.conE K13.ks38 ?_ | with_reducible refine Gx.conE K13.ks39 ?_ | with_reducible refine Gx.conE K13.ks40 ?_ | with_reducible refine Gx.conE K13.ks41 ?_ | with_reducible refine Gx.conE K13.ks42 ?_ | with_reducible refine Gx.conE K13.ks43 ?_ | with_reducible refine Gx.conE K13.ks44 ?_ | with_reducible refine Gx.conE K13.ks45 ?_ | with_reducible refine Gx.conE K13.ks46 ?_ | with_reducible refine Gx.conE K13.ks47 ?_ | with_reducible refine Gx.conE K13.ks48 ?_ | with_reducible refine Gx.conE K13.ks49 ?_ | with_reducible refine Gx.conE K13.ks50 ?_ | with_reducible refine Gx.conE K13.ks51 ?_ | with_reducible refine Gx.conE K13.ks52 ?_ | with_reducible refine Gx.conE K13.ks53 ?_ | with_reducible refine Gx.conE K13.ks54 ?_ | with_reducible refine Gx.conE K13.ks55 ?_ | with_reducible refine Gx.conE K13.ks56 ?_ | with_reducible refine Gx.conE K13.ks57 ?_ | with_reducible refine Gx.conE K13.ks58 ?_ | with_reducible refine Gx.conE K13.ks59 ?_ | with_reducible refine Gx.conE K13.ks60 ?_ | with_reducible refine Gx.conE K13.ks61 ?_ | with_reducible refine Gx.conE K13.ks62 ?_ | with_reducible refine Gx.conE K13.ks63 ?_)
section
variable {P : Program} {w : World} {K : PySem.W.Frag} {mg : Str → Option Value} {base : Heap}
def wrS : Nat → List Nat
  | 0 => twoS 0
  | 1 => twoS 1
  | 2 => twoS 2
  | 3 => twoS 3
  | _ => againS
theorem wr6 {v : Nat} (h : v < 6) : ([V.str (Gx.mkS [116, 104, 101, 110]), V.str (Gx.mkS [111, 114]), V.str (Gx.mkS [107, 101, 121, 101, 100]), V.str (Gx.mkS [97, 102, 116, 101, 114]), V.str (Gx.mkS [97, 103, 97, 105, 110]), V.str (Gx.mkS [97, 103, 97, 105, 110])])[v]? = some (V.str (Gx.mkS (wrS v))) := by
  match v, h with
  | 0, _ => rfl
  | 1, _ => rfl
  | 2, _ => rfl
  | 3, _ => rfl
  | 4, _ => rfl
  | 5, _ => rfl
/-- wrapped up to n times -/
def spWrap (K : PySem.W.Frag) : Sp := fun vs H Q _ => ∃ (x : Addr) (t : Ln) (b : Addr) (xs : List Int) (i : Int), vs = [.ref x, .ref b, .int i] ∧ Dp K H (.ref x) (lnD t) ∧ DrawnL t 3 ∧ SqL K H b (xs.map V.int) ∧ 0 < xs.length ∧
  ∀ H' x t, Same H H' → Dp K H' (.ref x) (lnD t) → t.rd ∧ t.nest ≤ 15 ∧ t.pd ≤ 3 ∧ t.sz ≤ 3000 ∧ t.mw ≤ 4 → Q (.ref x) H'
theorem G__law_wrapped (T : Txt K mg w) : FnOk P w K mg base CX0 2 T.f__law_wrapped T.fd__law_wrapped ["tree", "numbers", "at"] (spWrap K) := by
  have G__law_pick := G__law_pick (P := P) (w := w) (base := base) T
  refine T.F__law_wrapped.ok sc__law_wrapped (fun vs H Q E h => ?_) (fun cdv A outer s H vs Q E hr h => ?_)
  · obtain ⟨x, t, b, xs, i, rfl, _⟩ := h
    rfl
  · obtain ⟨x, t, b, xs, i, rfl, dt, dr, hX, hx, q⟩ := h
    refine ⟨_, ((pss_cons (ps_for PassesOwn.never rfl (pi_range1 rfl T.z_range (pa_cons (pe_call G__law_pick (hr.mono (by first | decide | omega)) (by rfl) T.g__law_pick T.F__law_pick.kp T.b__law_pick .nil pass0 (pa_cons (pv 1) (pa_cons (pv 2) (pa_cons pe_int pa_nil)))) pa_nil)) (pg_name (i := 3) sc__law_wrapped.nd rfl (Or.inl rfl))
  (pss_cons (ps_set (i := 4) sc__law_wrapped.nd rfl (Or.inl rfl) (pe_ix ix_list (pe_lst (pa_cons pe_str (pa_cons pe_str (pa_cons pe_str (pa_cons pe_str (pa_cons pe_str (pa_cons pe_str pa_nil))))))) (pe_call G__law_pick (hr.mono (by first | decide | omega)) (by rfl) T.g__law_pick T.F__law_pick.kp T.b__law_pick .nil pass0 (pa_cons (pv 1) (pa_cons (pe_op op_add (pe_op op_add (pv 2) pe_int) (pv 3)) (pa_cons pe_int pa_nil)))) (fun _ _ => rfl)))
  (pss_cons (ps_set (i := 5) sc__law_wrapped.nd rfl (Or.inl rfl) (pe_ix ix_list (pe_lst (pa_cons (pe_tup (pa_cons pe_str (pa_cons (pe_tup (pa_cons pe_str (pa_cons pe_str pa_nil))) pa_nil))) (pa_cons (pe_tup (pa_cons pe_str (pa_cons (pe_tup (pa_cons pe_str (pa_cons pe_str pa_nil))) (pa_cons pe_str (pa_cons pe_str pa_nil))))) pa_nil))) (pe_call G__law_pick (hr.mono (by first | decide | omega)) (by rfl) T.g__law_pick T.F__law_pick.kp T.b__law_pick .nil pass0 (pa_cons (pv 1) (pa_cons (pe_op op_add (pe_op op_add (pv 2) pe_int) (pv 3)) (pa_cons pe_int pa_nil)))) (fun _ _ => rfl)))
  (pss_one (ps_if (pt_cmpR op_eq (pv 4) pe_str (nomark _))
  (pss_one (ps_set (i := 0) sc__law_wrapped.nd rfl (Or.inl rfl) (pe_tup (pa_cons (pv 4) (pa_cons (pv 0) pa_nil)))))
  (pss_one (ps_if (pt_cmpR op_eq (pe_call G__law_pick (hr.mono (by first | decide | omega)) (by rfl) T.g__law_pick T.F__law_pick.kp T.b__law_pick .nil pass0 (pa_cons (pv 1) (pa_cons (pe_op op_add (pe_op op_add (pv 2) pe_int) (pv 3)) (pa_cons pe_int pa_nil)))) pe_int (nomark _))
  (pss_one (ps_set (i := 0) sc__law_wrapped.nd rfl (Or.inl rfl) (pe_tup (pa_cons (pv 4) (pa_cons (pv 0) (pa_cons (pv 5) pa_nil))))))
  (pss_one (ps_set (i := 0) sc__law_wrapped.nd rfl (Or.inl rfl) (pe_tup (pa_cons (pv 4) (pa_cons (pv 5) (pa_cons (pv 0) pa_nil)))))))))))))
  (pss_one (ps_ret (pv 0))))), ?_⟩
    clear G__law_pick
    rw [st__law_wrapped]
    try dsimp only [cxOf]
    walk_at "g"
    refine ⟨b, xs, _, _, rfl, hX, hx, by omega, ?_⟩
    have hv0 := pick_0 xs i (m := 13) (by omega)
    have hv1 := pick_lt xs i (m := 13) (by omega)
    generalize pick xs i 13 = n at *
    walk_at "g"
    refine ⟨_, rfl, by omega, by omega, for_range (fun j σ H' => Same H H' ∧ ∃ (x : Addr) (t : Ln) (y z u : Option V), Dp K H' (.ref x) (lnD t) ∧ t.rd ∧ t.nest ≤ 3 + j ∧ t.pd ≤ 3 ∧ t.sz ≤ 1440 + 30 * j ∧ t.mw ≤ 4 ∧ σ = [some (.ref x), some (.ref b), some (.int i), y, z, u]) ⟨Same.refl H, x, t, none, none, none, dt, dr.rd, dr.nest, dr.pd, dr.sz, dr.mw, rfl⟩ ?_ ?_⟩
    · rintro j σ H1 hj ⟨s1, x, t, y, z, u, dt, g1, g2, g3, g4, g5, rfl⟩
      walk_at "g"
      refine Gx.newL (by simp) fun D H2 E2 => ?_
      walk_at "g"
      refine ⟨b, xs, _, _, rfl, (s1.trans E2.same).seq hX, hx, by omega, ?_⟩
      have ha0 := pick_0 xs (i + 1 + (0 + (j : Int))) (m := 6) (by omega)
      have ha1 := pick_lt xs (i + 1 + (0 + (j : Int))) (m := 6) (by omega)
      generalize pick xs (i + 1 + (0 + (j : Int))) 6 = v at *
      refine Gx.ixL (SqL.of E2.at_) (Gx.atI_of (k := v.toNat) (by omega) (wr6 (by omega))) ?_
      walk_at "g"
      refine Gx.newT (by simp) fun w1 H3 E3 => ?_
      walk_at "g"
      refine Gx.newT (by simp) fun w2 H4 E4 => ?_
      walk_at "g"
      refine Gx.newT (by simp) fun w3 H5 E5 => ?_
      walk_at "g"
      refine Gx.newT (by simp) fun w4 H6 E6 => ?_
      walk_at "g"
      refine Gx.newL (by simp) fun D2 H7 E7 => ?_
      have s17 := E2.same.trans (E3.same.trans (E4.same.trans (E5.same.trans (E6.same.trans E7.same))))
      have s7 := s1.trans s17
      have dt7 := Gx.dp_same s17 _ _ dt
      have l1 : Dp K H7 (.ref w2) (lnD (.copy (.word []))) := .tup ((E5.same.trans (E6.same.trans E7.same)).seqT (SqT.of E4.at_)) (.cons (.str _) (.cons (.tup ((E4.same.trans (E5.same.trans (E6.same.trans E7.same))).seqT (SqT.of E3.at_)) (.cons (.str _) (.cons (.str _) .nil))) .nil))
      have l2 : Dp K H7 (.ref w4) (lnD (.hide (.one [97, 98]) [] [97])) := .tup (E7.same.seqT (SqT.of E6.at_)) (.cons (.str _) (.cons (.tup ((E6.same.trans E7.same).seqT (SqT.of E5.at_)) (.cons (.str _) (.cons (.str _) .nil))) (.cons (.str _) (.cons (.str _) .nil))))
      walk_at "g"
      refine ⟨b, xs, _, _, rfl, s7.seq hX, hx, by omega, ?_⟩
      have hb0 := pick_0 xs (i + 14 + (0 + (j : Int))) (m := 2) (by omega)
      have hb1 := pick_lt xs (i + 14 + (0 + (j : Int))) (m := 2) (by omega)
      generalize pick xs (i + 14 + (0 + (j : Int))) 2 = v2 at *
      obtain ⟨lf, lt, hlf, dlf, lr⟩ : ∃ (lf : Addr) (lt : Ln), ([V.ref w2, V.ref w4])[v2.toNat]? = some (.ref lf) ∧ Dp K H7 (.ref lf) (lnD lt) ∧ lt.rd ∧ lt.nest = 0 ∧ lt.pd ≤ 3 ∧ lt.sz ≤ 20 ∧ lt.mw ≤ 4 := by
        by_cases h : v2 = 0
        · subst h
          exact ⟨w2, _, rfl, l1, ⟨fun c hc => (by cases hc), (by decide : (2 : Nat) ≤ 17)⟩, rfl, by decide, by decide, by decide⟩
        · have : v2 = 1 := by omega
          subst this
          exact ⟨w4, _, rfl, l2, ⟨⟨(by unfold Sg; decide), by decide, by decide⟩, (by decide : (2 : Nat) ≤ 17), fun c hc => (by cases hc), (by unfold Sg; decide)⟩, rfl, by decide, by decide, by decide⟩
      obtain ⟨r1, r2, r3, r4, r5⟩ := lr
      refine Gx.ixL (SqL.of E7.at_) (Gx.atI_of (k := v2.toNat) (by omega) hlf) ?_
      walk_at "g"
      refine Gx.iteD (fun hA => ?_) (fun hA => ?_)
      · have hA : wrS v.toNat = againS := hA
        rw [hA]
        walk_at "g"
        refine Gx.newT (by simp) fun a H8 E8 => ?_
        exact ⟨s7.trans E8.same, a, .again t, _, _, _, .tup (SqT.of E8.at_) (.cons (.str _) (.cons (Gx.dp_same E8.same _ _ dt7) .nil)), g1, by show t.nest + 1 ≤ _; omega, g3, by show t.sz + 8 ≤ _; omega, g5, rfl⟩
      · obtain ⟨k, hk, hw⟩ : ∃ k, k < 4 ∧ wrS v.toNat = twoS k := by
          have h4 : v.toNat < 6 := by omega
          generalize v.toNat = m at *
          match m, h4 with
          | 0, _ => exact ⟨0, by decide, rfl⟩
          | 1, _ => exact ⟨1, by decide, rfl⟩
          | 2, _ => exact ⟨2, by decide, rfl⟩
          | 3, _ => exact ⟨3, by decide, rfl⟩
          | 4, _ => exact absurd rfl hA
          | 5, _ => exact absurd rfl hA
        rw [hw]
        walk_at "g"
        refine ⟨b, xs, _, _, rfl, s7.seq hX, hx, by omega, ?_⟩
        walk_at "g"
        refine Gx.iteD (fun _ => ?_) (fun _ => ?_)
        · walk_at "g"
          refine Gx.newT (by simp) fun a H8 E8 => ?_
          exact ⟨s7.trans E8.same, a, .two k t lt, _, _, _, .tup (SqT.of E8.at_) (.cons (.str _) (.cons (Gx.dp_same E8.same _ _ dt7) (.cons (Gx.dp_same E8.same _ _ dlf) .nil))), ⟨hk, g1, r1⟩, by show max t.nest lt.nest + 1 ≤ _; omega, Nat.max_le.mpr ⟨g3, r3⟩, by show t.sz + lt.sz + 8 ≤ _; omega, Nat.max_le.mpr ⟨g5, r5⟩, rfl⟩
        · walk_at "g"
          refine Gx.newT (by simp) fun a H8 E8 => ?_
          exact ⟨s7.trans E8.same, a, .two k lt t, _, _, _, .tup (SqT.of E8.at_) (.cons (.str _) (.cons (Gx.dp_same E8.same _ _ dlf) (.cons (Gx.dp_same E8.same _ _ dt7) .nil))), ⟨hk, r1, g1⟩, by show max lt.nest t.nest + 1 ≤ _; omega, Nat.max_le.mpr ⟨r3, g3⟩, by show lt.sz + t.sz + 8 ≤ _; omega, Nat.max_le.mpr ⟨r5, g5⟩, rfl⟩
    · rintro σ H1 ⟨s1, x, t, y, z, u, dt, g1, g2, g3, g4, g5, rfl⟩
      walk_at "g"
      exact q H1 x t s1 dt ⟨g1, by omega, g3, by omega, g5⟩
end
end K13
namespace K13
open PySem PySem.Spec PyProof.Rows L2
local macro_rules | `(tactic| walk_at "con") => `(tactic| first | with_reducible refine Gx.conE K13.ks0 ?_ | with_reducible refine Gx.conE K13.ks1 ?_ | with_reducible refine Gx.conE K13.ks2 ?_ | with_reducible refine Gx.conE K13.ks3 ?_ | with_reducible refine Gx.conE K13.ks4 ?_ | with_reducible refine Gx.conE K13.ks5 ?_ | with_reducible refine Gx.conE K13.ks6 ?_ | with_reducible refine Gx.conE K13.ks7 ?_ | with_reducible refine Gx.conE K13.ks8 ?_ | with_reducible refine Gx.conE K13.ks9 ?_ | with_reducible refine Gx.conE K13.ks10 ?_ | with_reducible refine Gx.conE K13.ks11 ?_ | with_reducible refine Gx.conE K13.ks12 ?_ | with_reducible refine Gx.conE K13.ks13 ?_ | with_reducible refine Gx.conE K13.ks14 ?_ | with_reducible refine Gx.conE K13.ks15 ?_ | with_reducible refine Gx.conE K13.ks16 ?_ | with_reducible refine Gx.conE K13.ks17 ?_ | with_reducible refine Gx.conE K13.ks18 ?_ | with_reducible refine Gx.conE K13.ks19 ?_ | with_reducible refine Gx.conE K13.ks20 ?_ | with_reducible refine Gx.conE K13.ks21 ?_ | with_reducible refine Gx.conE K13.ks22 ?_ | with_reducible refine Gx.conE K13.ks23 ?_ | with_reducible refine Gx.conE K13.ks24 ?_ | with_reducible refine Gx.conE K13.ks25 ?_ | with_reducible refine Gx.conE K13.ks26 ?_ | with_reducible refine Gx.conE K13.ks27 ?_ | with_reducible refine Gx.conE K13.ks28 ?_ | with_reducible refine Gx.conE K13.ks29 ?_ | with_reducible refine Gx.conE K13.ks30 ?_ | with_reducible refine Gx.conE K13.ks31 ?_ | with_reducible refine Gx.conE K13.ks32 ?_ | with_reducible refine Gx.conE K13.ks33 ?_ | with_reducible refine Gx.conE K13.ks34 ?_ | with_reducible refine Gx.conE K13.ks35 ?_ | with_reducible refine Gx.conE K13.ks36 ?_ | with_reducible refine Gx.conE K13.ks37 ?_ | with_reducible refine Gx.conE K13.ks38 ?_ | with_reducible refine Gx.conE K13.ks39 ?_ | with_reducible refine Gx.conE K13.ks40 ?_ | with_reducible refine Gx.conE K13.ks41 ?_ | with_reducible refine Gx.conE K13.ks42 ?_ | with_reducible refine Gx.conE K13.ks43 ?_ | with_reducible refine Gx.conE K13.ks44 ?_ | with_reducible refine Gx.conE K13.ks45 ?_ | with_reducible refine Gx.conE K13.ks46 ?_ | with_reducible refine Gx.conE K13.ks47 ?_ | with_reducible refine Gx.conE K13.ks48 ?_ | with_reducible refine Gx.conE K13.ks49 ?_ | with_reducible refine Gx.conE K13.ks50 ?_ | with_reducible refine Gx.conE K13.ks51 ?_ | with_reducible refine Gx.conE K13.ks52 ?_ | with_reducible refine Gx.conE K13.ks53 ?_ | with_reducible refine Gx.conE K13.ks54 ?_ | with_reducible refine Gx.conE K13.ks55 ?_ | with_reducible refine Gx.conE K13.ks56 ?_ | with_reducible refine Gx.conE K13.ks57 ?_ | with_reducible refine Gx.conE K13.ks58 ?_ | with_reducible refine Gx.conE K13.ks59 ?_ | with_reducible refine Gx.conE K13.ks60 ?_ | with_reducible refine Gx.conE K13.ks61 ?_ | with_reducible refine Gx.conE K13.ks62 ?_ | with_reducible refine Gx.conE K13.ks63 ?_)
section
variable {P : Program} {w : World} {K : PySem.W.Frag} {mg : Str → Option Value} {base : Heap}
theorem ints_can : ∀ xs : List Int, PyData.canLayAll0 (xs.map PyData.int) = true
  | [] => rfl
  | x :: xs => by rw [List.map_cons, PyData.canLayAll0, ints_can xs]; rfl
theorem ints_dep : ∀ xs : List Int, PyData.depthAll (xs.map PyData.int) = 0
  | [] => by simp [PyData.depthAll]
  | x :: xs => by rw [List.map_cons, PyData.depthAll, ints_dep xs, PyData.depth]; rfl
theorem ints_shaped (xs : List Int) : SeqAt.shaped (.list (xs.map PyData.int)) = true := by
  unfold SeqAt.shaped
  rw [PyData.canLay0, ints_can, Bool.true_and]
  refine decide_eq_true ?_
  simp only [PyData.depth]
  rw [ints_dep]
  decide
theorem ints_dp {H : Hp} : ∀ xs : List Int, DpAll K H (xs.map V.int) (xs.map PyData.int)
  | [] => .nil
  | x :: xs => .cons (.int _) (ints_dp xs)
theorem ints_nil (xs : List Int) : PyData.eqv (.list (xs.map PyData.int)) (.list []) = decide (xs = []) := by
  cases xs with
  | nil => rw [PyData.eqv]; simp [PyData.eqvAll]
  | cons l ls => rw [PyData.eqv]; simp [PyData.eqvAll]
/-- the contexts -/
def cS : Nat → List Nat
  | 0 => []
  | 1 => [115, 116, 97, 114]
  | 2 => [108, 101, 102, 116, 32, 111, 102, 32, 115, 101, 113]
  | 3 => [114, 105, 103, 104, 116, 32, 111, 102, 32, 115, 101, 113]
  | 4 => [108, 101, 102, 116, 32, 111, 102, 32, 97, 108, 116]
  | _ => [114, 105, 103, 104, 116, 32, 111, 102, 32, 97, 108, 116]
theorem inStrL {H : Hp} {Q : VK} {p : Addr} {a : List Nat} {ls : List (List Nat)} (h : SqL K H p ((ls.map Gx.mkS).map V.str)) (q : Q (.bl (decide (a ∈ ls))) H) : rIn K false (.str (Gx.mkS a)) (.ref p) H Q := ⟨p, _, rfl, .inl h, rfl, flat_strs ls, by rw [inV_strs]; simpa using q⟩
theorem in12 {c : Nat} (h : c ≤ 5) : decide (cS c ∈ [cS 1, cS 2]) = decide (c = 1 ∨ c = 2) := by
  match c, h with
  | 0, _ => decide
  | 1, _ => decide
  | 2, _ => decide
  | 3, _ => decide
  | 4, _ => decide
  | 5, _ => decide
theorem in1234 {c : Nat} (h : c ≤ 5) : decide (cS c ∈ [cS 1, cS 2, cS 3, cS 4]) = decide (c = 1 ∨ c = 2 ∨ c = 3 ∨ c = 4) := by
  match c, h with
  | 0, _ => decide
  | 1, _ => decide
  | 2, _ => decide
  | 3, _ => decide
  | 4, _ => decide
  | 5, _ => decide
/-- the text without its own brackets -/
inductive CT (loose : Bool) : Pat → List Nat → Prop where
  | word {l : List Nat} : CT loose (.word l) (60 :: (l ++ [62]))
  | one {l : List Nat} : CT loose (.one l) (91 :: (l ++ [93]))
  | star {p : Pat} {t : List Nat} : LT loose 1 p t → CT loose (.star p) (t ++ [42])
  | seq {p q : Pat} {t u : List Nat} : LT loose 2 p t → LT loose 3 q u → CT loose (.two true p q) (t ++ u)
  | alt {p q : Pat} {t u : List Nat} : LT loose 4 p t → LT loose 5 q u → CT loose (.two false p q) (t ++ (124 :: u))
theorem CT.lt {loose : Bool} {c k : Nat} {p : Pat} {t : List Nat} (h : CT loose p t) (hk : kOk loose c p k) : LT loose c p (brk k t) := by
  cases h with
  | word => exact .word hk
  | one => exact .one hk
  | star h => exact .star hk h
  | seq h g => exact .seq hk h g
  | alt h g => exact .alt hk h g
theorem CT.len {loose : Bool} {p : Pat} {t : List Nat} (h : CT loose p t) : t.length ≤ p.sz2 := by
  have h1 : kOk loose 0 p (need 0 p) := ⟨Nat.le_refl _, Nat.le_add_right _ _⟩
  have h2 := (h.lt h1).len
  rw [brk_len] at h2
  omega
def spText (K : PySem.W.Frag) (n : Nat) : Sp := fun vs H Q _ => ∃ (x : V) (p : Pat) (c : Nat) (b : Addr) (xs : List Int) (i : Int) (lo : Bool), vs = [x, .str (Gx.mkS (cS c)), .ref b, .int i] ∧ Dp K H x (patD p) ∧ p.depth ≤ n ∧ p.sz2 ≤ 100000 ∧ c ≤ 5 ∧ SqL K H b (xs.map V.int) ∧ xs.length ≤ 1000 ∧ lo = decide (xs ≠ []) ∧
  ∀ H' t, Same H H' → LT lo c p t → Q (.str (Gx.mkS t)) H'
theorem pairs5 {v : Nat} (h : v < 5) : ∃ d : Nat, ([V.int 0, V.int 1, V.int 0, V.int 2, V.int 0])[v]? = some (V.int (d : Nat)) ∧ d ≤ 2 := by
  match v, h with
  | 0, _ => exact ⟨0, rfl, by decide⟩
  | 1, _ => exact ⟨1, rfl, by decide⟩
  | 2, _ => exact ⟨0, rfl, by decide⟩
  | 3, _ => exact ⟨2, rfl, by decide⟩
  | 4, _ => exact ⟨0, rfl, by decide⟩
set_option maxHeartbeats 4000000 in
theorem G__law_pattern_text (T : Txt K mg w) : ∀ n, FnOk P w K mg base CX0 (n + 2) T.f__law_pattern_text T.fd__law_pattern_text ["pattern", "outside", "numbers", "at"] (spText K n)
  | 0 => ⟨fun _ _ _ _ h => by obtain ⟨x, p, c, b, xs, i, lo, rfl, _⟩ := h; rfl, fun A outer s H args us vs Q E hr h0 hb r h => by
      obtain ⟨x, p, c, b, xs, i, lo, rfl, _, hd, _⟩ := h
      have : 1 ≤ p.depth := by cases p <;> (unfold Pat.depth; omega)
      omega⟩
  | n + 1 => by
    have G__law_pick := G__law_pick (P := P) (w := w) (base := base) T
    have G__law_pattern_text := G__law_pattern_text T n
    refine T.F__law_pattern_text.ok sc__law_pattern_text (fun vs H Q E h => ?_) (fun cdv A outer s H vs Q E hr h => ?_)
    · obtain ⟨x, p, c, b, xs, i, lo, rfl, _⟩ := h
      rfl
    · obtain ⟨x, p, c, b, xs, i, lo, rfl, hp, hd, hs, hc, hX, hx, hlo, q⟩ := h
      refine ⟨_, ((pss_cons (ps_set (i := 4) sc__law_pattern_text.nd rfl (Or.inl rfl) (pe_ix ix_tup (pv 0) pe_int (fun _ _ => rfl)))
  (C8.pss_cut (ps_if (pt_cmpR op_eq (pv 4) pe_str (nomark _))
  (pss_one (ps_set (i := 5) sc__law_pattern_text.nd rfl (Or.inl rfl) (pe_op Gx.op_addS (pe_op Gx.op_addS pe_str (pe_ix ix_tup (pv 0) pe_int (fun _ _ => rfl))) pe_str)))
  (pss_one (ps_if (pt_cmpR op_eq (pv 4) pe_str (nomark _))
  (pss_one (ps_set (i := 5) sc__law_pattern_text.nd rfl (Or.inl rfl) (pe_op Gx.op_addS (pe_op Gx.op_addS pe_str (pe_ix ix_tup (pv 0) pe_int (fun _ _ => rfl))) pe_str)))
  (pss_one (ps_if (pt_cmpR op_eq (pv 4) pe_str (nomark _))
  (pss_one (ps_set (i := 5) sc__law_pattern_text.nd rfl (Or.inl rfl) (pe_op Gx.op_addS (pe_call G__law_pattern_text (hr.mono (by first | decide | omega)) (by rfl) T.g__law_pattern_text T.F__law_pattern_text.kp T.b__law_pattern_text .nil pass0 (pa_cons (pe_ix ix_tup (pv 0) pe_int (fun _ _ => rfl)) (pa_cons pe_str (pa_cons (pv 2) (pa_cons (pe_op op_add (pv 3) pe_int) pa_nil))))) pe_str)))
  (pss_one (ps_if (pt_cmpR op_eq (pv 4) pe_str (nomark _))
  (pss_cons (ps_set (i := 5) sc__law_pattern_text.nd rfl (Or.inl rfl) (pe_call G__law_pattern_text (hr.mono (by first | decide | omega)) (by rfl) T.g__law_pattern_text T.F__law_pattern_text.kp T.b__law_pattern_text .nil pass0 (pa_cons (pe_ix ix_tup (pv 0) pe_int (fun _ _ => rfl)) (pa_cons pe_str (pa_cons (pv 2) (pa_cons (pe_op op_add (pv 3) pe_int) pa_nil))))))
  (pss_one (ps_set (i := 5) sc__law_pattern_text.nd rfl (Or.inl rfl) (pe_op Gx.op_addS (pv 5) (pe_call G__law_pattern_text (hr.mono (by first | decide | omega)) (by rfl) T.g__law_pattern_text T.F__law_pattern_text.kp T.b__law_pattern_text .nil pass0 (pa_cons (pe_ix ix_tup (pv 0) pe_int (fun _ _ => rfl)) (pa_cons pe_str (pa_cons (pv 2) (pa_cons (pe_op op_add (pv 3) pe_int) pa_nil)))))))))
  (pss_cons (ps_set (i := 5) sc__law_pattern_text.nd rfl (Or.inl rfl) (pe_op Gx.op_addS (pe_call G__law_pattern_text (hr.mono (by first | decide | omega)) (by rfl) T.g__law_pattern_text T.F__law_pattern_text.kp T.b__law_pattern_text .nil pass0 (pa_cons (pe_ix ix_tup (pv 0) pe_int (fun _ _ => rfl)) (pa_cons pe_str (pa_cons (pv 2) (pa_cons (pe_op op_add (pv 3) pe_int) pa_nil))))) pe_str))
  (pss_one (ps_set (i := 5) sc__law_pattern_text.nd rfl (Or.inl rfl) (pe_op Gx.op_addS (pv 5) (pe_call G__law_pattern_text (hr.mono (by first | decide | omega)) (by rfl) T.g__law_pattern_text T.F__law_pattern_text.kp T.b__law_pattern_text .nil pass0 (pa_cons (pe_ix ix_tup (pv 0) pe_int (fun _ _ => rfl)) (pa_cons pe_str (pa_cons (pv 2) (pa_cons (pe_op op_add (pv 3) pe_int) pa_nil))))))))))))))))
  (pss_cons (ps_set (i := 6) sc__law_pattern_text.nd rfl (Or.inl rfl) pe_int)
  (C8.pss_cut (ps_if (pt_cmpR (op_neD hr.units) (pv 2) (pe_lst pa_nil) (nomark _))
  (pss_one (ps_set (i := 6) sc__law_pattern_text.nd rfl (Or.inl rfl) (pe_ix ix_list (pe_lst (pa_cons pe_int (pa_cons pe_int (pa_cons pe_int (pa_cons pe_int (pa_cons pe_int pa_nil)))))) (pe_call G__law_pick (hr.mono (by first | decide | omega)) (by rfl) T.g__law_pick T.F__law_pick.kp T.b__law_pick .nil pass0 (pa_cons (pv 2) (pa_cons (pe_op op_add (pv 3) pe_int) (pa_cons pe_int pa_nil)))) (fun _ _ => rfl))))
  pss_nil)
  (C8.pss_cut (ps_if (PW.pt (pw_and (pt_cmpR op_eq (pv 4) pe_str (nomark _)) (pw_and1 (pt_cmpR op_in_seq (pv 1) (pe_lst (pa_cons pe_str (pa_cons pe_str pa_nil))) rfl))))
  (pss_one (ps_set (i := 6) sc__law_pattern_text.nd rfl (Or.inl rfl) (pe_op op_add (pv 6) pe_int)))
  pss_nil)
  (C8.pss_cut (ps_if (PW.pt (pw_and (pt_cmpR op_eq (pv 4) pe_str (nomark _)) (pw_and1 (pt_cmpR op_in_seq (pv 1) (pe_lst (pa_cons pe_str (pa_cons pe_str (pa_cons pe_str (pa_cons pe_str pa_nil))))) rfl))))
  (pss_one (ps_set (i := 6) sc__law_pattern_text.nd rfl (Or.inl rfl) (pe_op op_add (pv 6) pe_int)))
  pss_nil)
  (pss_cons (ps_for PassesOwn.never rfl (pi_range1 rfl T.z_range (pa_cons (pv 6) pa_nil)) (pg_name (i := 7) sc__law_pattern_text.nd rfl (Or.inl rfl))
  (pss_one (ps_set (i := 5) sc__law_pattern_text.nd rfl (Or.inl rfl) (pe_op Gx.op_addS (pe_op Gx.op_addS pe_str (pv 5)) pe_str))))
  (pss_one (ps_ret (pv 5))))))))))), ?_⟩
      clear G__law_pick G__law_pattern_text
      rw [st__law_pattern_text]
      try dsimp only [cxOf]
      obtain ⟨t0, txs, rfl, ht0⟩ := pat_tag hp
      walk_at "g"
      refine Gx.ixT ht0 (Gx.atI_of (k := 0) rfl rfl) ?_
      walk_at "g"
      have sl := Pat.sz_le p
      refine ⟨fun σ H' => Same H H' ∧ ∃ t, CT lo p t ∧ σ = [some (.ref t0), some (.str (Gx.mkS (cS c))), some (.ref b), some (.int i), some (.str (Gx.mkS p.tag)), some (.str (Gx.mkS t)), none, none], ?_, ?_⟩
      · obtain ⟨t0', e0, ht⟩ := pat_inv hp
        cases e0
        cases p with
        | word l =>
          have hs' : l.length + 6 ≤ 100000 := hs
          dsimp only [Pat.tag] at *
          walk_at "g"
          rw [if_pos (by decide)]
          walk_at "g"
          exact ⟨Same.refl H, _, .word, rfl⟩
        | one l =>
          have hs' : l.length + 6 ≤ 100000 := hs
          dsimp only [Pat.tag] at *
          walk_at "g"
          rw [if_neg (by decide)]
          walk_at "g"
          rw [if_pos (by decide)]
          walk_at "g"
          exact ⟨Same.refl H, _, .one, rfl⟩
        | star p =>
          have hs' : p.sz2 + 5 ≤ 100000 := hs
          have hd' : p.depth + 1 ≤ n + 1 := hd
          obtain ⟨y, ht, hy⟩ := ht
          dsimp only [Pat.tag] at *
          walk_at "g"
          rw [if_neg (by decide)]
          walk_at "g"
          rw [if_neg (by decide)]
          walk_at "g"
          rw [if_pos (by decide)]
          walk_at "g"
          refine ⟨y, p, 1, b, xs, _, lo, rfl, hy, by omega, by omega, by omega, hX, hx, hlo, fun H1 t s1 lt => ?_⟩
          have := lt.len
          walk_at "g"
          exact ⟨s1, _, .star lt, rfl⟩
        | two bb p q' =>
          have hs' : p.sz2 + q'.sz2 + 7 ≤ 100000 := hs
          have hd' : max p.depth q'.depth + 1 ≤ n + 1 := hd
          obtain ⟨y, z, ht, hy, hz⟩ := ht
          cases bb with
          | true =>
            rw [show kindS true = seqS from rfl] at ht
            rw [show (Pat.two true p q').tag = seqS from rfl]
            walk_at "g"
            rw [if_neg (by decide)]
            walk_at "g"
            rw [if_neg (by decide)]
            walk_at "g"
            rw [if_neg (by decide)]
            walk_at "g"
            rw [if_pos (by decide)]
            walk_at "g"
            refine ⟨y, p, 2, b, xs, _, lo, rfl, hy, by omega, by omega, by omega, hX, hx, hlo, fun H1 t s1 lt => ?_⟩
            have ht1 := s1.seqT ht
            have := lt.len
            walk_at "g"
            refine ⟨z, q', 3, b, xs, _, lo, rfl, Gx.dp_same s1 _ _ hz, by omega, by omega, by omega, s1.seq hX, hx, hlo, fun H2 u s2 lu => ?_⟩
            have := lu.len
            walk_at "g"
            exact ⟨s1.trans s2, _, .seq lt lu, rfl⟩
          | false =>
            rw [show kindS false = altS from rfl] at ht
            rw [show (Pat.two false p q').tag = altS from rfl]
            walk_at "g"
            rw [if_neg (by decide)]
            walk_at "g"
            rw [if_neg (by decide)]
            walk_at "g"
            rw [if_neg (by decide)]
            walk_at "g"
            rw [if_neg (by decide)]
            walk_at "g"
            refine ⟨y, p, 4, b, xs, _, lo, rfl, hy, by omega, by omega, by omega, hX, hx, hlo, fun H1 t s1 lt => ?_⟩
            have ht1 := s1.seqT ht
            have := lt.len
            walk_at "g"
            refine ⟨z, q', 5, b, xs, _, lo, rfl, Gx.dp_same s1 _ _ hz, by omega, by omega, by omega, s1.seq hX, hx, hlo, fun H2 u s2 lu => ?_⟩
            have := lu.len
            walk_at "g"
            refine ⟨s1.trans s2, t ++ (124 :: u), .alt lt lu, ?_⟩
            rw [List.append_assoc]
            rfl
      rintro σ H1 ⟨s1, t, ct, rfl⟩
      replace hX := s1.seq hX
      have ctl := ct.len
      walk_at "g"
      refine ⟨fun σ H' => Same H H' ∧ ∃ d : Nat, d ≤ (if lo = true then 2 else 0) ∧ σ = [some (.ref t0), some (.str (Gx.mkS (cS c))), some (.ref b), some (.int i), some (.str (Gx.mkS p.tag)), some (.str (Gx.mkS t)), some (.int (d : Nat)), none], ?_, ?_⟩
      · walk_at "g"
        refine Gx.newL (by simp) fun Dn Hn En => ?_
        refine ⟨.list (xs.map PyData.int), .list [], .lst (En.same.seq hX) (ints_dp xs), .lst (SqL.of En.at_) .nil, ints_shaped xs, rfl, ?_⟩
        rw [ints_nil]
        replace s1 := s1.trans En.same
        replace hX := En.same.seq hX
        walk_at "g"
        refine Gx.iteDn (fun hb => ?_) (fun hb => ?_)
        · have hb2 : lo = true := by rw [hlo]; exact decide_eq_true hb
          have hx0 : 0 < xs.length := List.length_pos_iff.mpr hb
          walk_at "g"
          refine Gx.newL (by simp) fun D H2 E2 => ?_
          walk_at "g"
          refine ⟨b, xs, _, _, rfl, E2.same.seq hX, hx0, by omega, ?_⟩
          have hv0 := pick_0 xs (i + 40) (m := 5) (by omega)
          have hv1 := pick_lt xs (i + 40) (m := 5) (by omega)
          generalize pick xs (i + 40) 5 = v at *
          obtain ⟨d, hd1, hd2⟩ := pairs5 (v := v.toNat) (by omega)
          refine Gx.ixL (SqL.of E2.at_) (Gx.atI_of (k := v.toNat) (by omega) hd1) ?_
          walk_at "g"
          exact ⟨s1.trans E2.same, d, by rw [if_pos hb2]; exact hd2, rfl⟩
        · walk_at "g"
          exact ⟨s1, 0, Nat.zero_le _, rfl⟩
      rintro σ H2 ⟨s2, d, hd0, rfl⟩
      clear hX
      walk_at "g"
      refine ⟨fun σ H' => Same H H' ∧ ∃ d' : Nat, d' = d + (if p.tag = seqS ∧ (c = 1 ∨ c = 2) then 1 else 0) ∧ σ = [some (.ref t0), some (.str (Gx.mkS (cS c))), some (.ref b), some (.int i), some (.str (Gx.mkS p.tag)), some (.str (Gx.mkS t)), some (.int (d' : Nat)), none], ?_, ?_⟩
      · walk_at "g"
        by_cases hk : p.tag = seqS
        · rw [decide_eq_true (show p.tag = [115, 101, 113] from hk)]
          walk_at "g"
          refine Gx.newL (by simp) fun D H3 E3 => ?_
          walk_at "g"
          refine inStrL (ls := [cS 1, cS 2]) (SqL.of E3.at_) ?_
          rw [in12 hc]
          walk_at "g"
          refine Gx.iteD (fun h => ?_) (fun h => ?_)
          · walk_at "g"
            exact ⟨s2.trans E3.same, d + 1, by rw [if_pos ⟨hk, h⟩], rfl⟩
          · walk_at "g"
            exact ⟨s2.trans E3.same, d, by rw [if_neg (fun z => h z.2)]; rfl, rfl⟩
        · rw [decide_eq_false (show ¬ p.tag = [115, 101, 113] from hk)]
          walk_at "g"
          exact ⟨s2, d, by rw [if_neg (fun z => hk z.1)]; rfl, rfl⟩
      rintro σ H3 ⟨s3, d', rfl, rfl⟩
      walk_at "g"
      refine ⟨fun σ H' => Same H H' ∧ ∃ d' : Nat, d' = d + (if p.tag = seqS ∧ (c = 1 ∨ c = 2) then 1 else 0) + (if p.tag = altS ∧ (c = 1 ∨ c = 2 ∨ c = 3 ∨ c = 4) then 1 else 0) ∧ σ = [some (.ref t0), some (.str (Gx.mkS (cS c))), some (.ref b), some (.int i), some (.str (Gx.mkS p.tag)), some (.str (Gx.mkS t)), some (.int (d' : Nat)), none], ?_, ?_⟩
      · walk_at "g"
        by_cases hk : p.tag = altS
        · rw [decide_eq_true (show p.tag = [97, 108, 116] from hk)]
          walk_at "g"
          refine Gx.newL (by simp) fun D H4 E4 => ?_
          walk_at "g"
          refine inStrL (ls := [cS 1, cS 2, cS 3, cS 4]) (SqL.of E4.at_) ?_
          rw [in1234 hc]
          walk_at "g"
          refine Gx.iteD (fun h => ?_) (fun h => ?_)
          · walk_at "g"
            exact ⟨s3.trans E4.same, _, by rw [if_pos (c := p.tag = altS ∧ _) ⟨hk, h⟩], rfl⟩
          · walk_at "g"
            exact ⟨s3.trans E4.same, _, by rw [if_neg (c := p.tag = altS ∧ _) (fun z => h z.2)]; rfl, rfl⟩
        · rw [decide_eq_false (show ¬ p.tag = [97, 108, 116] from hk)]
          walk_at "g"
          exact ⟨s3, _, by rw [if_neg (c := p.tag = altS ∧ _) (fun z => hk z.1)]; rfl, rfl⟩
      rintro σ H4 ⟨s4, d', hd', rfl⟩
      have hneed : d' = d + need c p := by
        rw [hd']
        have n1 : wordS ≠ seqS ∧ wordS ≠ altS ∧ oneS ≠ seqS ∧ oneS ≠ altS ∧ starS ≠ seqS ∧ starS ≠ altS ∧ seqS ≠ altS ∧ altS ≠ seqS := by decide
        cases p with
        | word l => rw [if_neg (fun z => n1.1 z.1), if_neg (fun z => n1.2.1 z.1)]; rfl
        | one l => rw [if_neg (fun z => n1.2.2.1 z.1), if_neg (fun z => n1.2.2.2.1 z.1)]; rfl
        | star p => rw [if_neg (fun z => n1.2.2.2.2.1 z.1), if_neg (fun z => n1.2.2.2.2.2.1 z.1)]; rfl
        | two bb p q2 =>
          cases bb with
          | true =>
            rw [if_neg (c := (Pat.two true p q2).tag = altS ∧ _) (fun z => n1.2.2.2.2.2.2.1 z.1)]
            simp only [need]
            by_cases h : c = 1 ∨ c = 2
            · rw [if_pos ⟨rfl, h⟩, if_pos h]
            · rw [if_neg (fun z => h z.2), if_neg h]
          | false =>
            rw [if_neg (c := (Pat.two false p q2).tag = seqS ∧ _) (fun z => n1.2.2.2.2.2.2.2 z.1)]
            simp only [need]
            by_cases h : c = 1 ∨ c = 2 ∨ c = 3 ∨ c = 4
            · rw [if_pos ⟨rfl, h⟩, if_pos h]
            · rw [if_neg (fun z => h z.2), if_neg h]
      have hko : kOk lo c p d' := ⟨by omega, by omega⟩
      have hn1 := need_le c p
      have hd3 : d' ≤ 3 := by split at hd0 <;> omega
      have hlt := ct.lt hko
      walk_at "g"
      refine ⟨_, rfl, by omega, by omega, for_range (fun j σ H' => ∃ y, Same H H' ∧ σ = [some (.ref t0), some (.str (Gx.mkS (cS c))), some (.ref b), some (.int i), some (.str (Gx.mkS p.tag)), some (.str (Gx.mkS (brk j t))), some (.int (d' : Nat)), y]) ⟨none, s4, rfl⟩ ?_ ?_⟩
      · rintro j σ H5 hj ⟨y, s5, rfl⟩
        have hbl := brk_len j t
        walk_at "g"
        exact ⟨_, s5, rfl⟩
      · rintro σ H5 ⟨y, s5, rfl⟩
        rw [Int.toNat_natCast]
        walk_at "g"
        exact q H5 _ s5 hlt
end
end K13
namespace K13
open PySem PySem.Spec PyProof.Rows L2
local macro_rules | `(tactic| walk_at "con") => `(tactic| first | with_reducible refine Gx.conE K13.ks0 ?_ | with_reducible refine Gx.conE K13.ks1 ?_ | with_reducible refine Gx.conE K13.ks2 ?_ | with_reducible refine Gx.conE K13.ks3 ?_ | with_reducible refine Gx.conE K13.ks4 ?_ | with_reducible refine Gx.conE K13.ks5 ?_ | with_reducible refine Gx.conE K13.ks6 ?_ | with_reducible refine Gx.conE K13.ks7 ?_ | with_reducible refine Gx.conE K13.ks8 ?_ | with_reducible refine Gx.conE K13.ks9 ?_ | with_reducible refine Gx.conE K13.ks10 ?_ | with_reducible refine Gx.conE K13.ks11 ?_ | with_reducible refine Gx.conE K13.ks12 ?_ | with_reducible refine Gx.conE K13.ks13 ?_ | with_reducible refine Gx.conE K13.ks14 ?_ | with_reducible refine Gx.conE K13.ks15 ?_ | with_reducible refine Gx.conE K13.ks16 ?_ | with_reducible refine Gx.conE K13.ks17 ?_ | with_reducible refine Gx.conE K13.ks18 ?_ | with_reducible refine Gx.conE K13.ks19 ?_ | with_reducible refine Gx.conE K13.ks20 ?_ | with_reducible refine Gx.conE K13.ks21 ?_ | with_reducible refine Gx.conE K13.ks22 ?_ | with_reducible refine Gx.conE K13.ks23 ?_ | with_reducible refine Gx.conE K13.ks24 ?_ | with_reducible refine Gx.conE K13.ks25 ?_ | with_reducible refine Gx.conE K13.ks26 ?_ | with_reducible refine Gx.conE K13.ks27 ?_ | with_reducible refine Gx.conE K13.ks28 ?_ | with_reducible refine Gx.conE K13.ks29 ?_ | with_reducible refine Gx.conE K13.ks30 ?_ | with_reducible refine Gx.conE K13.ks31 ?_ | with_reducible refine Gx.conE K13.ks32 ?_ | with_reducible refine Gx.conE K13.ks33 ?_ | with_reducible refine Gx.conE K13.ks34 ?_ | with_reducible refine Gx.conE K13.ks35 ?_ | with_reducible refine Gx.conE K13.ks36 ?_ | with_reducible refine Gx.conE K13.ks37 ?_ | with_reducible refine Gx.conE K13.ks38 ?_ | with_reducible refine Gx.conE K13.ks39 ?_ | with_reducible refine Gx.conE K13.ks40 ?_ | with_reducible refine Gx.conE K13.ks41 ?_ | with_reducible refine Gx.conE K13.ks42 ?_ | with_reducible refine Gx.conE K13.ks43 ?_ | with_reducible refine Gx.conE K13.ks44 ?_ | with_reducible refine Gx.conE K13.ks45 ?_ | with_reducible refine Gx.conE K13.ks46 ?_ | with_reducible refine Gx.conE K13.ks47 ?_ | with_reducible refine Gx.conE K13.ks48 ?_ | with_reducible refine Gx.conE K13.ks49 ?_ | with_reducible refine Gx.conE K13.ks50 ?_ | with_reducible refine Gx.conE K13.ks51 ?_ | with_reducible refine Gx.conE K13.ks52 ?_ | with_reducible refine Gx.conE K13.ks53 ?_ | with_reducible refine Gx.conE K13.ks54 ?_ | with_reducible refine Gx.conE K13.ks55 ?_ | with_reducible refine Gx.conE K13.ks56 ?_ | with_reducible refine Gx.conE K13.ks57 ?_ | with_reducible refine Gx.conE K13.ks58 ?_ | with_reducible refine Gx.conE K13.ks59 ?_ | with_reducible refine Gx.conE K13.ks60 ?_ | with_reducible refine Gx.conE K13.ks61 ?_ | with_reducible refine Gx.conE K13.ks62 ?_ | with_reducible refine Gx.conE K13.ks63 ?_)
section
variable {P : Program} {w : World} {K : PySem.W.Frag} {mg : Str → Option Value} {base : Heap}
theorem or2T {p1 p2 : Prop} [Decidable p1] [Decidable p2] {tb : TT} {σ : L2.St} {H : Hp} {Q : Bool → Hp → Prop} (hb : ¬ p1 → ∀ Q' : Bool → Hp → Prop, Q' (decide p2) H → tb σ H Q') (h : Q (decide (p1 ∨ p2)) H) : if decide p1 = true then Q true H else tb σ H Q := by
  by_cases h1 : p1
  · rw [decide_eq_true h1]
    rw [show decide (p1 ∨ p2) = true from decide_eq_true (.inl h1)] at h
    exact h
  · rw [decide_eq_false h1]
    refine hb h1 _ ?_
    rw [show decide (p1 ∨ p2) = decide p2 from decide_eq_decide.mpr ⟨fun h => h.resolve_left h1, .inr⟩] at h
    exact h
theorem leaf_sz {t : Ln} {p : Pat} {ws : List (List Nat)} (h : t.leaf = some (p, ws)) : p.sz2 + ws.flatten.length + 8 ≤ t.sz := by
  cases t with
  | copy p => cases h; simp [Ln.sz]
  | swap p to => cases h; simp [Ln.sz]
  | hide p a b => cases h; simp [Ln.sz]; omega
  | again t => cases h
  | two k t u => cases h
theorem node_sz {t : Ln} (h : t.leaf = none) : (t.kids.map Ln.sz).sum + 8 ≤ t.sz := by
  cases t with
  | copy p => cases h
  | swap p to => cases h
  | hide p a b => cases h
  | again t => simp [Ln.kids, Ln.sz]
  | two k t u => simp [Ln.kids, Ln.sz]
theorem All2.snoc {α β : Type} {R : α → β → Prop} {as : List α} {bs : List β} {a : α} {b : β} (h : All2 R as bs) (g : R a b) : All2 R (as ++ [a]) (bs ++ [b]) := by
  induction h with
  | nil => exact .cons g .nil
  | cons h1 _ ih => exact .cons h1 ih
theorem All2.lens {lo : Bool} {ts : List Ln} {us : List (List Nat)} (h : All2 (LLT lo) ts us) : us.flatten.length ≤ (ts.map Ln.sz).sum ∧ us.length = ts.length := by
  induction h with
  | nil => exact ⟨Nat.le_refl _, rfl⟩
  | cons h1 _ ih => have := h1.len; simp only [List.flatten_cons, List.length_append, List.map_cons, List.sum_cons, List.length_cons]; omega
def spLText (K : PySem.W.Frag) (n : Nat) : Sp := fun vs H Q _ => ∃ (x : V) (t : Ln) (b : Addr) (xs : List Int) (i : Int) (lo : Bool), vs = [x, .ref b, .int i] ∧ Dp K H x (lnD t) ∧ t.nest < n ∧ t.pd ≤ 3 ∧ t.sz ≤ 100000 ∧ SqL K H b (xs.map V.int) ∧ xs.length ≤ 1000 ∧ lo = decide (xs ≠ []) ∧
  ∀ H' u, Same H H' → LLT lo t u → Q (.str (Gx.mkS u)) H'
set_option maxHeartbeats 4000000 in
theorem G__law_lens_text (T : Txt K mg w) : ∀ n, FnOk P w K mg base CX0 (n + 6) T.f__law_lens_text T.fd__law_lens_text ["tree", "numbers", "at"] (spLText K n)
  | 0 => ⟨fun _ _ _ _ h => by obtain ⟨x, t, b, xs, i, lo, rfl, _⟩ := h; rfl, fun A outer s H args us vs Q E hr h0 hb r h => by
      obtain ⟨x, t, b, xs, i, lo, rfl, _, hd, _⟩ := h
      omega⟩
  | n + 1 => by
    have G__law_lens_text := G__law_lens_text T n
    have G__law_pattern_text := G__law_pattern_text (P := P) (w := w) (base := base) T 3
    refine T.F__law_lens_text.ok sc__law_lens_text (fun vs H Q E h => ?_) (fun cdv A outer s H vs Q E hr h => ?_)
    · obtain ⟨x, t, b, xs, i, lo, rfl, _⟩ := h
      rfl
    · obtain ⟨x, t, b, xs, i, lo, rfl, ht, hn, hd, hs, hX, hx, hlo, q⟩ := h
      refine ⟨_, ((pss_cons (ps_if (PW.pt (pw_or (pt_cmpR op_eq (pe_ix ix_tup (pv 0) pe_int (fun _ _ => rfl)) pe_str (nomark _)) (pw_or (pt_cmpR op_eq (pe_ix ix_tup (pv 0) pe_int (fun _ _ => rfl)) pe_str (nomark _)) (pw_or1 (pt_cmpR op_eq (pe_ix ix_tup (pv 0) pe_int (fun _ _ => rfl)) pe_str (nomark _))))))
  (pss_cons (ps_set (i := 3) sc__law_lens_text.nd rfl (Or.inl rfl) (pe_op op_cat (pe_lst (pa_cons (pe_call G__law_pattern_text (hr.mono (by first | decide | omega)) (by rfl) T.g__law_pattern_text T.F__law_pattern_text.kp T.b__law_pattern_text .nil pass0 (pa_cons (pe_ix ix_tup (pv 0) pe_int (fun _ _ => rfl)) (pa_cons pe_str (pa_cons (pv 1) (pa_cons (pv 2) pa_nil))))) pa_nil)) (pe_callTy call_list_of (by rfl) T.z_list bt_list (pa_cons (pe_slice sl_tupA (pv 0) (po_some pe_int) po_none) pa_nil))))
  (pss_one (ps_ret (pe_op Gx.op_addS (pe_op Gx.op_addS (pe_op Gx.op_addS (pe_ix ix_tup (pv 0) pe_int (fun _ _ => rfl)) pe_str) (Gx.pe_joinG pe_str (pv 3))) pe_str))))
  pss_nil)
  (pss_cons (ps_setLc (i := 3) (own := [("k", 4)]) (g := (gName 4)) (tt := tYes) rfl sc__law_lens_text.nd rfl rfl (sw_true rfl rfl rfl (by decide +kernel)) (pi_range1 rfl T.z_range (pa_cons (pe_op op_sub (pe_callB Gx.cr_lenQ (by rfl) T.z_len bt_len (pa_cons (pv 0) pa_nil)) pe_int) pa_nil)) (blkOk_by (N := ["tree", "numbers", "at", "words", "k"]) (sc := defScope s__law_lens_text) (by decide +kernel)) (fun _ _ _ _ _ => (pg_name (i := 4) sc__law_lens_text.nd rfl (Or.inl rfl))) (fun _ _ _ _ _ => pts_nil) (fun _ _ _ _ _ => (pe_call G__law_lens_text (hr.mono (by first | decide | omega)) (by rfl) T.g__law_lens_text T.F__law_lens_text.kp T.b__law_lens_text .nil pass0 (pa_cons (pe_ix (r := rIxT K) ix_tup (pv 0) (pe_op op_add pe_int (pv 4)) (fun _ _ => rfl)) (pa_cons (pv 1) (pa_cons (pe_op op_add (pe_op op_add (pv 2) pe_int) (pe_op op_mul pe_int (pv 4))) pa_nil))))))
  (pss_one (ps_ret (pe_op Gx.op_addS (pe_op Gx.op_addS (pe_op Gx.op_addS (pe_ix ix_tup (pv 0) pe_int (fun _ _ => rfl)) pe_str) (Gx.pe_joinG pe_str (pv 3))) pe_str)))))), ?_⟩
      clear G__law_lens_text G__law_pattern_text
      rw [st__law_lens_text]
      try dsimp only [cxOf]
      have htl := tag_len t
      cases e : t.leaf with
      | some pw =>
        obtain ⟨p, ws⟩ := pw
        obtain ⟨a, y, rfl, ha, hy⟩ := ln_leaf ht e
        obtain ⟨hws, hpd, hsz⟩ := leaf_ws e
        walk_at "g"
        refine Gx.ixT ha (Gx.atI_of (k := 0) rfl rfl) ?_
        walk_at "g"
        refine or2T (p2 := t.tag = hideS ∨ t.tag = swapS) (fun _ Q' hQ' => ?_) ?_
        · walk_at "g"
          refine Gx.ixT ha (Gx.atI_of (k := 0) rfl rfl) ?_
          walk_at "g"
          refine or2T (p2 := t.tag = swapS) (fun _ Q2 hQ2 => ?_) ?_
          · walk_at "g"
            refine Gx.ixT ha (Gx.atI_of (k := 0) rfl rfl) ?_
            walk_at "g"
            exact hQ2
          · exact hQ'
        refine Gx.iteD (fun _ => ?_) (fun hno => ?_)
        · have hsz2 := leaf_sz e
          walk_at "g"
          refine Gx.ixT ha (Gx.atI_of (k := 1) rfl rfl) ?_
          walk_at "g"
          refine ⟨y, p, 0, b, xs, _, lo, rfl, hy, by omega, by omega, by omega, hX, hx, hlo, fun H1 u s1 lu => ?_⟩
          have ha1 := s1.seqT ha
          have hul := lu.len
          walk_at "g"
          refine Gx.newL (by simp) (fun l1 H2 E2 => ?_)
          have ha2 := E2.same.seqT ha1
          walk_at "g"
          refine Gx.slA ha2 (fun tp H3 s3 h3 => ?_)
          rw [cut2] at h3
          have e13 := s3 _ _ E2.at_
          walk_at "g"
          refine ⟨tp, _, rfl, .inr h3, fun l2 n2 => ?_⟩
          have E4 := Gx.ext1 (o := .lst ((ws.map Gx.mkS).map V.str)) n2
          have e14 := E4.same _ _ e13
          refine ⟨l1, l2, _, _, rfl, rfl, e14, upd_same, by rw [sizeLine_eq]; simp; omega, fun l3 n3 => ?_⟩
          have E5 := Gx.ext1 (o := .lst ([V.str (Gx.mkS u)] ++ (ws.map Gx.mkS).map V.str)) n3
          have s15 := E2.same.trans (s3.trans (E4.same.trans E5.same))
          have ha5 := s15.seqT ha1
          have hfl := joinL_len [44] (u :: ws)
          rw [List.flatten_cons, List.length_append, List.length_cons, List.length_singleton] at hfl
          walk_at "g"
          refine Gx.ixT ha5 (Gx.atI_of (k := 0) rfl rfl) ?_
          walk_at "g"
          refine joinC (ls := u :: ws) (SqL.of upd_same) (by simp only [List.length_cons, List.flatten_cons, List.length_append, List.length_nil]; omega) ?_
          walk_at "g"
          have := q _ _ (s1.trans s15) (LLT.leafL e lu)
          simpa using this
        · exact absurd ((leaf_tag t).mpr (by rw [e]; simp)) (fun hm => hno (by
            unfold leafL at hm
            simp only [List.mem_cons, List.not_mem_nil, or_false] at hm
            rcases hm with h | h | h
            · exact .inl h
            · exact .inr (.inl h)
            · exact .inr (.inr h)))
      | none =>
        obtain ⟨a, ys, rfl, ha, hy⟩ := ln_node ht e
        obtain ⟨hk1, hk2⟩ := node_kids e
        walk_at "g"
        refine Gx.ixT ha (Gx.atI_of (k := 0) rfl rfl) ?_
        walk_at "g"
        refine or2T (p2 := t.tag = hideS ∨ t.tag = swapS) (fun _ Q' hQ' => ?_) ?_
        · walk_at "g"
          refine Gx.ixT ha (Gx.atI_of (k := 0) rfl rfl) ?_
          walk_at "g"
          refine or2T (p2 := t.tag = swapS) (fun _ Q2 hQ2 => ?_) ?_
          · walk_at "g"
            refine Gx.ixT ha (Gx.atI_of (k := 0) rfl rfl) ?_
            walk_at "g"
            exact hQ2
          · exact hQ'
        refine Gx.iteD (fun hyes => ?_) (fun _ => ?_)
        · exact absurd e ((leaf_tag t).mp (by
            unfold leafL
            simp only [List.mem_cons, List.not_mem_nil, or_false]
            rcases hyes with h | h | h
            · exact .inl h
            · exact .inr (.inl h)
            · exact .inr (.inr h)))
        · have hyl := Gx.dpAll_len hy
          rw [List.length_map] at hyl
          have hks := node_sz e
          walk_at "g"
          refine ⟨(ys.length : Nat), by simp, by omega, by omega, fun D nD => lc_range (lo := 0) (n := ys.length) (fun j H' => Same H H' ∧ ∃ us : List (List Nat), H' D = some (.lst ((us.map Gx.mkS).map V.str)) ∧ us.length = j ∧ All2 (LLT lo) (t.kids.take j) us) ⟨Gx.Same.put (Same.refl H) nD, [], upd_same, rfl, .nil⟩ ?_ ?_⟩
          · rintro j H9 hj ⟨s9, us, e9, ul, hall⟩
            have hj' : j < ys.length := hj
            obtain ⟨v, hv⟩ : ∃ v, ys[j]? = some v := ⟨_, List.getElem?_eq_getElem hj'⟩
            obtain ⟨u, hu, du⟩ := dpAll_get hy hv
            obtain ⟨g1, g2, g3⟩ := hk2 u (List.mem_of_getElem? hu)
            walk_at "g"
            refine ⟨rfl, ?_⟩
            walk_at "g"
            refine Gx.ixT (s9.seqT ha) (Gx.atI_of (k := j + 1) (by omega) hv) ?_
            walk_at "g"
            refine ⟨v, u, b, xs, _, lo, rfl, Gx.dp_same s9 _ _ du, by omega, by omega, by omega, s9.seq hX, hx, hlo, fun H10 w1 s10 lw => ?_⟩
            walk_at "g"
            refine ⟨_, s10 _ _ e9, Gx.lineL (by simp; omega), Gx.Same.put (s9.trans s10) nD, us ++ [w1], by rw [upd_same]; simp, by simp [ul], ?_⟩
            rw [List.take_succ, hu]
            exact hall.snoc lw
          · rintro H9 ⟨s9, us, e9, ul, hall⟩
            have hall : All2 (LLT lo) (t.kids.take ys.length) us := hall
            rw [hyl, List.take_length] at hall
            obtain ⟨m1, m2⟩ := hall.lens
            have hfl := joinL_len [44] us
            rw [List.length_singleton] at hfl
            walk_at "g"
            refine Gx.ixT (s9.seqT ha) (Gx.atI_of (k := 0) rfl rfl) ?_
            walk_at "g"
            refine joinC (ls := us) (SqL.of e9) (by rw [List.length_singleton]; omega) ?_
            walk_at "g"
            have := q _ _ s9 (LLT.node e hall)
            simpa using this
end
end K13
namespace K13
open PySem PySem.Spec PyProof.Rows L2
local macro_rules | `(tactic| walk_at "con") => `(tactic| first | with_reducible refine Gx.conE K13.ks0 ?_ | with_reducible refine Gx.conE K13.ks1 ?_ | with_reducible refine Gx.conE K13.ks2 ?_ | with_reducible refine Gx.conE K13.ks3 ?_ | with_reducible refine Gx.conE K13.ks4 ?_ | with_reducible refine Gx.conE K13.ks5 ?_ | with_reducible refine Gx.conE K13.ks6 ?_ | with_reducible refine Gx.conE K13.ks7 ?_ | with_reducible refine Gx.conE K13.ks8 ?_ | with_reducible refine Gx.conE K13.ks9 ?_ | with_reducible refine Gx.conE K13.ks10 ?_ | with_reducible refine Gx.conE K13.ks11 ?_ | with_reducible refine Gx.conE K13.ks12 ?_ | with_reducible refine Gx.conE K13.ks13 ?_ | with_reducible refine Gx.conE K13.ks14 ?_ | with_reducible refine Gx.conE K13.ks15 ?_ | with_reducible refine Gx.conE K13.ks16 ?_ | with_reducible refine Gx.conE K13.ks17 ?_ | with_reducible refine Gx.conE K13.ks18 ?_ | with_reducible refine Gx.conE K13.ks19 ?_ | with_reducible refine Gx.conE K13.ks20 ?_ | with_reducible refine Gx.conE K13.ks21 ?_ | with_reducible refine Gx.conE K13.ks22 ?_ | with_reducible refine Gx.conE K13.ks23 ?_ | with_reducible refine Gx.conE K13.ks24 ?_ | with_reducible refine Gx.conE K13.ks25 ?_ | with_reducible refine Gx.conE K13.ks26 ?_ | with_reducible refine Gx.conE K13.ks27 ?_ | with_reducible refine Gx.conE K13.ks28 ?_ | with_reducible refine Gx.conE K13.ks29 ?_ | with_reducible refine Gx.conE K13.ks30 ?_ | with_reducible refine Gx.conE K13.ks31 ?_ | with_reducible refine Gx.conE K13.ks32 ?_ | with_reducible refine Gx.conE K13.ks33 ?_ | with_reducible refine Gx.conE K13.ks34 ?_ | with_reducible refine Gx.conE K13.ks35 ?_ | with_reducible refine Gx.conE K13.ks36 ?_ | with_reducible refine Gx.conE K13.ks37 ?_ | with_reducible refine Gx.conE K13.ks38 ?_ | with_reducible refine Gx.conE K13.ks39 ?_ | with_reducible refine Gx.conE K13.ks40 ?_ | with_reducible refine Gx.conE K13.ks41 ?_ | with_reducible refine Gx.conE K13.ks42 ?_ | with_reducible refine Gx.conE K13.ks43 ?_ | with_reducible refine Gx.conE K13.ks44 ?_ | with_reducible refine Gx.conE K13.ks45 ?_ | with_reducible refine Gx.conE K13.ks46 ?_ | with_reducible refine Gx.conE K13.ks47 ?_ | with_reducible refine Gx.conE K13.ks48 ?_ | with_reducible refine Gx.conE K13.ks49 ?_ | with_reducible refine Gx.conE K13.ks50 ?_ | with_reducible refine Gx.conE K13.ks51 ?_ | with_reducible refine Gx.conE K13.ks52 ?_ | with_reducible refine Gx.conE K13.ks53 ?_ | with_reducible refine Gx.conE K13.ks54 ?_ | with_reducible refine Gx.conE K13.ks55 ?_ | with_reducible refine Gx.conE K13.ks56 ?_ | with_reducible refine Gx.conE K13.ks57 ?_ | with_reducible refine Gx.conE K13.ks58 ?_ | with_reducible refine Gx.conE K13.ks59 ?_ | with_reducible refine Gx.conE K13.ks60 ?_ | with_reducible refine Gx.conE K13.ks61 ?_ | with_reducible refine Gx.conE K13.ks62 ?_ | with_reducible refine Gx.conE K13.ks63 ?_)
section
variable {P : Program} {w : World} {K : PySem.W.Frag} {mg : Str → Option Value} {base : Heap}
def sp_folded (K : PySem.W.Frag) : Sp := fun vs H Q E => (∃ (a : Addr) (b : Bool) (xs : List V) (ps : List Pat), vs = [.str (Gx.mkS (kindS b)), .ref a] ∧ SqL K H a xs ∧ DpAll K H xs (ps.map patD) ∧ 0 < ps.length ∧ ps.length ≤ 200000 ∧ ∀ H' v, Same H H' → Dp K H' v (patD (fold b ps)) → Q v H')
theorem G__law_folded (T : Txt K mg w) : FnOk P w K mg base CX0 1 T.f__law_folded T.fd__law_folded ["kind", "parts"] (sp_folded K) := by
  refine T.F__law_folded.ok sc__law_folded (fun vs H Q E h => ?_) (fun cdv A outer s H vs Q E hr h => ?_)
  · obtain ⟨a, b, xs, ps, rfl, _⟩ := h
    rfl
  · obtain ⟨a, b, xs, ps, rfl, hS, hd, h0, hps, q⟩ := h
    have hl := Gx.dpAll_len hd
    rw [List.length_map] at hl
    refine ⟨_, ((pss_cons (ps_set (i := 2) sc__law_folded.nd rfl (Or.inl rfl) (pe_ix ix_list (pv 1) (pe_un un_neg pe_int) (fun _ _ => rfl)))
  (pss_cons (ps_for PassesOwn.never rfl (pi_range1 rfl T.z_range (pa_cons (pe_op op_sub (pe_callB Gx.cr_lenQ (by rfl) T.z_len bt_len (pa_cons (pv 1) pa_nil)) pe_int) pa_nil)) (pg_name (i := 3) sc__law_folded.nd rfl (Or.inl rfl))
  (pss_one (ps_set (i := 2) sc__law_folded.nd rfl (Or.inl rfl) (pe_tup (pa_cons (pv 0) (pa_cons (pe_ix ix_list (pv 1) (pe_op op_sub (pe_op op_sub (pe_callB Gx.cr_lenQ (by rfl) T.z_len bt_len (pa_cons (pv 1) pa_nil)) pe_int) (pv 3)) (fun _ _ => rfl)) (pa_cons (pv 2) pa_nil)))))))
  (pss_one (ps_ret (pv 2)))))), ?_⟩
    rw [st__law_folded]
    try dsimp only [cxOf]
    obtain ⟨v0, hv0, d0⟩ := pats_get hd (i := ps.length - 1) (by omega)
    walk_at "g"
    refine Gx.ixL hS (atI_m1 (by rw [hl]; exact hv0)) ?_
    walk_at "g"
    refine ⟨_, rfl, by omega, by omega, for_range (fun i σ H3 => ∃ (v : V) (y : Option V), Same H H3 ∧ Dp K H3 v (patD (fold b (ps.drop (ps.length - 1 - i)))) ∧ σ = [some (.str (Gx.mkS (kindS b))), some (.ref a), some v, y])
      ⟨v0, none, Same.refl _, by rw [Nat.sub_zero, fold_last b ps h0]; exact d0, rfl⟩ ?_ ?_⟩
    · rintro i σ H3 hi ⟨v, y, s3, dv, rfl⟩
      have hj : ps.length - 1 - (i + 1) < ps.length := by omega
      obtain ⟨v1, hv1, d1⟩ := pats_get hd hj
      have hf := fold_drop b ps (ps.length - 1 - (i + 1)) (by omega)
      rw [show ps.length - 1 - (i + 1) + 1 = ps.length - 1 - i by omega] at hf
      have hS3 := s3.seq hS
      walk_at "g"
      refine Gx.ixL hS3 (Gx.atI_of (k := ps.length - 1 - (i + 1)) (by omega) hv1) ?_
      walk_at "g"
      refine Gx.newT (by simp) (fun t H5 E5 => ?_)
      walk_at "g"
      refine ⟨_, _, s3.trans E5.same, ?_, rfl⟩
      rw [hf]
      exact .tup (SqT.of E5.at_) (.cons (.str _) (.cons (Gx.dp_same (s3.trans E5.same) _ _ d1) (.cons (Gx.dp_same E5.same _ _ dv) .nil)))
    · rintro σ H3 ⟨v, y, s3, dv, rfl⟩
      rw [show ps.length - 1 - ((xs.length : Int) - 1).toNat = 0 by omega, List.drop_zero] at dv
      walk_at "g"
      exact q H3 v s3 dv
def spanX (asc : Bool) (x : Nat) (s : List Nat) : List Nat := if asc = true then (spanA x s).2 else (spanS s).2
def sp_lend (K : PySem.W.Frag) : Sp := fun vs H Q _ => ∃ (l : List Nat) (a : Nat) (asc : Bool), vs = [.str (Gx.mkS l), .int (a : Nat), .bl asc] ∧ a ≤ l.length ∧ l.length ≤ 100000 ∧ Q (.int ((l.length - (spanX asc 0 (l.drop a)).length : Nat) : Nat)) H
theorem drop_get {l : List Nat} {n : Nat} (h : n < l.length) : l.drop n = l.getD n 0 :: l.drop (n + 1) := by
  rw [List.drop_eq_getElem_cons h, List.getD_eq_getElem?_getD, List.getElem?_eq_getElem h]
  rfl
theorem G__law_end (T : Txt K mg w) : FnOk P w K mg base CX0 1 T.f__law_end T.fd__law_end ["text", "at", "ascending"] (sp_lend K) := by
  refine T.F__law_end.ok sc__law_end (fun vs H Q E h => ?_) (fun cdv A outer s H vs Q E hr h => ?_)
  · obtain ⟨l, a, asc, rfl, _⟩ := h
    rfl
  · obtain ⟨l, a, asc, rfl, ha, hl, q⟩ := h
    refine ⟨_, ((pss_cons (ps_for PassesOwn.never rfl (pi_range1 rfl T.z_range (pa_cons (pe_callB Gx.cr_lenS (by rfl) T.z_len bt_len (pa_cons (pv 0) pa_nil)) pa_nil)) (pg_name (i := 3) sc__law_end.nd rfl (Or.inl rfl))
  (pss_cons (ps_if (PW.pt (pw_or (pt_cmpR op_ge (pe_op op_add (pv 1) (pv 3)) (pe_callB Gx.cr_lenS (by rfl) T.z_len bt_len (pa_cons (pv 0) pa_nil)) (nomark _)) (pw_or1 (pt_cmpR Gx.op_notInSg (pe_ix ix_str (pv 0) (pe_op op_add (pv 1) (pv 3)) (fun _ _ => rfl)) pe_str rfl))))
  (pss_one (ps_ret (pe_op op_add (pv 1) (pv 3))))
  pss_nil)
  (pss_one (ps_if (PW.pt (pw_and (pt_val (pv 2)) (pw_and (pt_cmpR op_gt (pv 3) pe_int (nomark _)) (pw_and1 (pt_cmpR op_ge_str (pe_ix ix_str (pv 0) (pe_op op_sub (pe_op op_add (pv 1) (pv 3)) pe_int) (fun _ _ => rfl)) (pe_ix ix_str (pv 0) (pe_op op_add (pv 1) (pv 3)) (fun _ _ => rfl)) (nomark _))))))
  (pss_one (ps_ret (pe_op op_add (pv 1) (pv 3))))
  pss_nil))))
  (pss_one (ps_ret (pe_op op_add (pv 1) (pe_callB Gx.cr_lenS (by rfl) T.z_len bt_len (pa_cons (pv 0) pa_nil))))))), ?_⟩
    rw [st__law_end]
    try dsimp only [cxOf]
    walk_at "g"
    refine ⟨_, rfl, by omega, by omega, for_range (fun i σ H1 => ∃ y, H1 = H ∧ a + i ≤ l.length ∧ spanX asc (if i = 0 then 0 else l.getD (a + i - 1) 0) (l.drop (a + i)) = spanX asc 0 (l.drop a) ∧ σ = [some (.str (Gx.mkS l)), some (.int (a : Nat)), some (.bl asc), y])
      ⟨none, rfl, by omega, rfl, rfl⟩ ?_ ?_⟩
    · rintro i σ H1 hi ⟨y, rfl, hai, hsp, rfl⟩
      have stop : spanX asc (if i = 0 then 0 else l.getD (a + i - 1) 0) (l.drop (a + i)) = l.drop (a + i) → Q (.int ((a : Int) + (0 + (i : Int)))) H1 := fun e => by
        rw [e] at hsp
        rw [← hsp, List.length_drop] at q
        have e2 : ((l.length - (l.length - (a + i)) : Nat) : Int) = (a : Int) + (0 + (i : Int)) := by omega
        rw [e2] at q
        exact q
      walk_at "g"
      by_cases hge : l.length ≤ a + i
      · rw [decide_eq_true (show (l.length : Int) ≤ (a : Int) + (0 + (i : Int)) by omega)]
        walk_at "g"
        refine stop ?_
        rw [List.drop_eq_nil_of_le hge]
        unfold spanX
        split <;> rfl
      · rw [decide_eq_false (show ¬ (l.length : Int) ≤ (a : Int) + (0 + (i : Int)) by omega)]
        have hd := drop_get (l := l) (n := a + i) (by omega)
        have hti : ((a : Int) + (0 + (i : Int))).toNat = a + i := by omega
        walk_at "g"
        rw [hti]
        walk_at "g"
        refine Gx.iteDn (fun hc => ?_) (fun hc => ?_)
        · replace hc : ¬ l.getD (a + i) 0 ∈ sgs := hc
          walk_at "g"
          refine stop ?_
          rw [hd]
          unfold spanX
          split
          · rw [spanA, if_neg (fun z => hc z.1)]
          · rw [spanS, if_neg hc]
        · replace hc : l.getD (a + i) 0 ∈ sgs := hc
          walk_at "g"
          cases asc with
          | false =>
            walk_at "g"
            refine ⟨_, rfl, by omega, ?_, rfl⟩
            rw [← hsp, hd]
            unfold spanX
            rw [if_neg (by decide), if_neg (by decide), spanS, if_pos hc]
            rw [Nat.add_assoc]
          | true =>
            walk_at "g"
            by_cases h0 : i = 0
            · subst h0
              rw [decide_eq_false (show ¬ (0 : Int) < 0 + ((0 : Nat) : Int) by omega)]
              walk_at "g"
              refine ⟨_, rfl, by omega, ?_, rfl⟩
              rw [← hsp, hd]
              unfold spanX
              rw [if_pos rfl, if_pos rfl, if_pos rfl, if_neg (by omega), spanA, if_pos ⟨hc, by
                revert hc
                unfold sgs
                simp only [List.mem_cons, List.not_mem_nil, or_false]
                omega⟩]
              rfl
            · rw [decide_eq_true (show (0 : Int) < 0 + (i : Int) by omega)]
              have hti2 : ((a : Int) + (0 + (i : Int)) - 1).toNat = a + i - 1 := by omega
              walk_at "g"
              rw [hti, hti2]
              refine ⟨_, _, rfl, rfl, ?_⟩
              have hlt : ((Gx.mkS [l.getD (a + i - 1) 0]).cps.toList < (Gx.mkS [l.getD (a + i) 0]).cps.toList) = (l.getD (a + i - 1) 0 < l.getD (a + i) 0) := propext ⟨fun z => by
                rcases List.cons_lt_cons_iff.mp z with z | ⟨_, z⟩
                · exact z
                · exact absurd z (List.not_lt_nil _), fun z => List.cons_lt_cons_iff.mpr (.inl z)⟩
              simp only [hlt]
              walk_at "g"
              refine Gx.iteDn (fun hn => ?_) (fun hn => ?_)
              · walk_at "g"
                refine stop ?_
                rw [hd]
                unfold spanX
                rw [if_pos rfl, if_neg h0, spanA, if_neg (fun z => hn z.2)]
              · walk_at "g"
                refine ⟨_, rfl, by omega, ?_, rfl⟩
                rw [← hsp, hd]
                unfold spanX
                rw [if_pos rfl, if_pos rfl, if_neg h0, if_neg (by omega), spanA, if_pos ⟨hc, hn⟩]
                rfl
    · rintro σ H1 ⟨y, rfl, hai, hsp, rfl⟩
      rw [Int.toNat_natCast] at hai hsp
      have ha0 : a = 0 := by omega
      subst ha0
      walk_at "g"
      rw [← hsp, List.drop_eq_nil_of_le (by omega)] at q
      have e : (spanX asc (if l.length = 0 then 0 else l.getD (0 + l.length - 1) 0) []).length = 0 := by unfold spanX; split <;> rfl
      rw [e] at q
      have e2 : ((l.length - 0 : Nat) : Int) = ((0 : Nat) : Int) + (l.length : Int) := by omega
      rw [e2] at q
      exact q
end
end K13
namespace K13
open PySem PySem.Spec PyProof.Rows L2
local macro_rules | `(tactic| walk_at "con") => `(tactic| first | with_reducible refine Gx.conE K13.ks0 ?_ | with_reducible refine Gx.conE K13.ks1 ?_ | with_reducible refine Gx.conE K13.ks2 ?_ | with_reducible refine Gx.conE K13.ks3 ?_ | with_reducible refine Gx.conE K13.ks4 ?_ | with_reducible refine Gx.conE K13.ks5 ?_ | with_reducible refine Gx.conE K13.ks6 ?_ | with_reducible refine Gx.conE K13.ks7 ?_ | with_reducible refine Gx.conE K13.ks8 ?_ | with_reducible refine Gx.conE K13.ks9 ?_ | with_reducible refine Gx.conE K13.ks10 ?_ | with_reducible refine Gx.conE K13.ks11 ?_ | with_reducible refine Gx.conE K13.ks12 ?_ | with_reducible refine Gx.conE K13.ks13 ?_ | with_reducible refine Gx.conE K13.ks14 ?_ | with_reducible refine Gx.conE K13.ks15 ?_ | with_reducible refine Gx.conE K13.ks16 ?_ | with_reducible refine Gx.conE K13.ks17 ?_ | with_reducible refine Gx.conE K13.ks18 ?_ | with_reducible refine Gx.conE K13.ks19 ?_ | with_reducible refine Gx.conE K13.ks20 ?_ | with_reducible refine Gx.conE K13.ks21 ?_ | with_reducible refine Gx.conE K13.ks22 ?_ | with_reducible refine Gx.conE K13.ks23 ?_ | with_reducible refine Gx.conE K13.ks24 ?_ | with_reducible refine Gx.conE K13.ks25 ?_ | with_reducible refine Gx.conE K13.ks26 ?_ | with_reducible refine Gx.conE K13.ks27 ?_ | with_reducible refine Gx.conE K13.ks28 ?_ | with_reducible refine Gx.conE K13.ks29 ?_ | with_reducible refine Gx.conE K13.ks30 ?_ | with_reducible refine Gx.conE K13.ks31 ?_ | with_reducible refine Gx.conE K13.ks32 ?_ | with_reducible refine Gx.conE K13.ks33 ?_ | with_reducible refine Gx.conE K13.ks34 ?_ | with_reducible refine Gx.conE K13.ks35 ?_ | with_reducible refine Gx.conE K13.ks36 ?_ | with_reducible refine Gx.conE K13.ks37 ?_ | with_reducible refine Gx.conE K13.ks38 ?_ | with_reducible refine Gx.conE K13.ks39 ?_ | with_reducible refine Gx.conE K13.ks40 ?_ | with_reducible refine Gx.conE K13.ks41 ?_ | with_reducible refine Gx.conE K13.ks42 ?_ | with_reducible refine Gx.conE K13.ks43 ?_ | with_reducible refine Gx.conE K13.ks44 ?_ | with_reducible refine Gx.conE K13.ks45 ?_ | with_reducible refine Gx.conE K13.ks46 ?_ | with_reducible refine Gx.conE K13.ks47 ?_ | with_reducible refine Gx.conE K13.ks48 ?_ | with_reducible refine Gx.conE K13.ks49 ?_ | with_reducible refine Gx.conE K13.ks50 ?_ | with_reducible refine Gx.conE K13.ks51 ?_ | with_reducible refine Gx.conE K13.ks52 ?_ | with_reducible refine Gx.conE K13.ks53 ?_ | with_reducible refine Gx.conE K13.ks54 ?_ | with_reducible refine Gx.conE K13.ks55 ?_ | with_reducible refine Gx.conE K13.ks56 ?_ | with_reducible refine Gx.conE K13.ks57 ?_ | with_reducible refine Gx.conE K13.ks58 ?_ | with_reducible refine Gx.conE K13.ks59 ?_ | with_reducible refine Gx.conE K13.ks60 ?_ | with_reducible refine Gx.conE K13.ks61 ?_ | with_reducible refine Gx.conE K13.ks62 ?_ | with_reducible refine Gx.conE K13.ks63 ?_)
section
variable {P : Program} {w : World} {K : PySem.W.Frag} {mg : Str → Option Value} {base : Heap}
def LRs (K : PySem.W.Frag) (l : List Nat) (x : Rs Pat) (H : Hp) (Q : VK) : Prop := match x with
  | .ok p r => ∀ H' t v, Same H H' → SqT K H' t [v, .int ((l.length - r.length : Nat) : Nat)] → Dp K H' v (patD p) → Q (.ref t) H'
  | .bad r => ∀ H' t, Same H H' → SqT K H' t [.non, .int ((l.length - r.length : Nat) : Nat)] → Q (.ref t) H'
def sp_lleaf (K : PySem.W.Frag) : Sp := fun vs H Q _ => ∃ (l : List Nat) (a c : Nat) (r : List Nat), vs = [.str (Gx.mkS l), .int (a : Nat)] ∧ l.drop a = c :: r ∧ (c = 60 ∨ c = 91) ∧ l.length ≤ 100000 ∧ LRs K l (leafOf (c == 91) r) H Q
theorem G__law_read_item (T : Txt K mg w) : FnOk P w K mg base CX0 2 T.f__law_read_item T.fd__law_read_item ["text", "at"] (sp_lleaf K) := by
  have G__law_end := G__law_end (P := P) (w := w) (base := base) T
  refine T.F__law_read_item.ok sc__law_read_item (fun vs H Q E h => ?_) (fun cdv A outer s H vs Q E hr h => ?_)
  · obtain ⟨l, a, c, r, rfl, _⟩ := h
    rfl
  · obtain ⟨l, a, c, r, rfl, hd, hc, hl, q⟩ := h
    obtain ⟨ha, hdr, hg⟩ := suf_at hd
    refine ⟨_, ((pss_cons (ps_set (i := 2) sc__law_read_item.nd rfl (Or.inl rfl) pe_str)
  (pss_cons (ps_set (i := 3) sc__law_read_item.nd rfl (Or.inl rfl) pe_str)
  (C8.pss_cut (ps_if (pt_cmpR op_eq (pe_ix ix_str (pv 0) (pv 1) (fun _ _ => rfl)) pe_str (nomark _))
  (pss_cons (ps_set (i := 2) sc__law_read_item.nd rfl (Or.inl rfl) pe_str)
  (pss_one (ps_set (i := 3) sc__law_read_item.nd rfl (Or.inl rfl) pe_str)))
  pss_nil)
  (pss_cons (ps_set (i := 4) sc__law_read_item.nd rfl (Or.inl rfl) (pe_call G__law_end (hr.mono (by first | decide | omega)) (by rfl) T.g__law_end T.F__law_end.kp T.b__law_end .nil pass0 (pa_cons (pv 0) (pa_cons (pe_op op_add (pv 1) pe_int) (pa_cons (pe_cmpR op_eq (pv 2) pe_str (nomark _)) pa_nil)))))
  (pss_cons (ps_if (PW.pt (pw_or (pt_cmpR op_ne (pe_slice sl_str (pv 0) (po_some (pv 4)) (po_some (pe_op op_add (pv 4) pe_int))) (pv 3) (nomark _)) (pw_or1 (PW.pt (pw_and (pt_cmpR op_eq (pv 2) pe_str (nomark _)) (pw_and1 (pt_cmpR op_eq (pv 4) (pe_op op_add (pv 1) pe_int) (nomark _))))))))
  (pss_one (ps_ret (pe_tup (pa_cons pe_non (pa_cons (pv 4) pa_nil)))))
  pss_nil)
  (pss_one (ps_ret (pe_tup (pa_cons (pe_tup (pa_cons (pv 2) (pa_cons (pe_slice sl_str (pv 0) (po_some (pe_op op_add (pv 1) pe_int)) (po_some (pv 4))) pa_nil))) (pa_cons (pe_op op_add (pv 4) pe_int) pa_nil))))))))))), ?_⟩
    clear G__law_end
    rw [st__law_read_item]
    try dsimp only [cxOf]
    walk_at "g"
    refine ⟨fun σ H' => H' = H ∧ σ = [some (.str (Gx.mkS l)), some (.int (a : Nat)), some (.str (Gx.mkS (if c = 91 then oneS else wordS))), some (.str (Gx.mkS (if c = 91 then [93] else [62]))), none], ?_, ?_⟩
    · walk_at "g"
      rw [Int.toNat_natCast, hg]
      refine Gx.iteD (fun h => ?_) (fun h => ?_)
      · have : c = 91 := by simpa using h
        subst this
        walk_at "g"
        exact ⟨rfl, rfl⟩
      · have : ¬ c = 91 := fun z => h (by rw [z])
        rw [if_neg this, if_neg this]
        walk_at "g"
        exact ⟨rfl, rfl⟩
    rintro σ H' ⟨rfl, rfl⟩
    obtain ⟨kd, hkd⟩ : ∃ kd, kd = (if c = 91 then oneS else wordS) := ⟨_, rfl⟩
    obtain ⟨cl, hcl⟩ : ∃ cl : List Nat, cl = (if c = 91 then [93] else [62]) := ⟨_, rfl⟩
    rw [← hkd, ← hcl]
    have key : decide (kd = [111, 110, 101]) = (c == 91) := by
      rw [hkd]
      rcases hc with rfl | rfl <;> decide
    walk_at "g"
    rw [key]
    refine ⟨l, a + 1, (c == 91), rfl, by omega, hl, ?_⟩
    rw [hdr]
    have hT : Suf (spanX (c == 91) 0 r) (l.drop (a + 1)) := by
      rw [hdr]
      unfold spanX
      split
      · exact ⟨_, spanA_suf r 0⟩
      · exact ⟨_, spanS_suf r⟩
    obtain ⟨t1, t2, t3⟩ := suf_drop hT
    have hlen := hT.len
    rw [List.length_drop] at hlen
    walk_at "g"
    rw [sl1, t3]
    rcases hc with rfl | rfl
    · -- a word
      have e91 : ((60 : Nat) == 91) = false := by decide
      have ex : spanX false 0 r = (spanS r).2 := by unfold spanX; rw [if_neg (by decide)]
      rw [if_neg (by decide)] at hkd hcl
      subst hkd hcl
      rw [e91] at q hlen t1 t2 t3 ⊢
      rw [ex] at hlen t1 t2 t3 ⊢
      cases hs : (spanS r).2 with
      | nil =>
        have e : leafOf false r = .bad [] := by unfold leafOf; rw [if_pos rfl, hs]
        rw [e] at q
        rw [show (([] : List Nat).take 1) = [] from rfl, decide_eq_false (by decide : ¬ ([] : List Nat) = [62])]
        walk_at "g"
        refine Gx.newT (by simp) (fun t H2 E2 => ?_)
        exact q H2 t E2.same (SqT.of E2.at_)
      | cons d u =>
        rw [show ((d :: u).take 1) = [d] from rfl]
        by_cases h62 : d = 62
        · subst h62
          have e : leafOf false r = .ok (.word (spanS r).1) u := by unfold leafOf; rw [if_pos rfl, hs]; rfl
          rw [e] at q
          rw [decide_eq_true (rfl : [62] = [62])]
          walk_at "g"
          rw [decide_eq_false (by decide : ¬ wordS = [111, 110, 101])]
          walk_at "g"
          rw [hs] at hlen t2
          rw [List.length_cons] at hlen t2
          have ep : (l.take (((l.length - (62 :: u).length : Nat) : Int)).toNat).drop ((a : Int) + 1).toNat = (spanS r).1 := by
            rw [Int.toNat_natCast, show ((a : Int) + 1).toNat = a + 1 by omega]
            exact piece (by rw [hdr, ← hs]; exact spanS_suf r) (by omega)
          rw [ep]
          refine Gx.newT (by simp) (fun tw H1 E1 => ?_)
          walk_at "g"
          refine Gx.newT (by simp) (fun tt H2 E2 => ?_)
          refine q H2 tt (.ref tw) (E1.same.trans E2.same) ?_ (.tup (E2.same.seqT (SqT.of E1.at_)) (.cons (.str _) (.cons (.str _) .nil)))
          rw [show ((l.length - u.length : Nat) : Int) = ((l.length - (62 :: u).length : Nat) : Int) + 1 by rw [List.length_cons]; omega]
          exact SqT.of E2.at_
        · have e : leafOf false r = .bad (d :: u) := by
            unfold leafOf
            rw [if_pos rfl, hs]
            split
            · rename_i e; injection e with e _; exact absurd e h62
            · rfl
          rw [e] at q
          rw [decide_eq_false (fun z : [d] = [62] => h62 (by simpa using z))]
          walk_at "g"
          refine Gx.newT (by simp) (fun t H2 E2 => ?_)
          exact q H2 t E2.same (SqT.of E2.at_)
    · have e91 : ((91 : Nat) == 91) = true := by decide
      have ex : spanX true 0 r = (spanA 0 r).2 := by unfold spanX; rw [if_pos rfl]
      rw [if_pos rfl] at hkd hcl
      subst hkd hcl
      rw [e91] at q hlen t1 t2 t3 ⊢
      rw [ex] at hlen t1 t2 t3 ⊢
      have hw : (spanA 0 r).1.length + (spanA 0 r).2.length = r.length := by
        have := congrArg List.length (spanA_suf r 0)
        rw [List.length_append] at this
        omega
      have hrl := congrArg List.length hdr
      rw [List.length_drop] at hrl
      cases hs : (spanA 0 r).2 with
      | nil =>
        have e : leafOf true r = .bad [] := by
          unfold leafOf
          rw [if_neg (by decide), hs]
          split <;> rfl
        rw [e] at q
        rw [show (([] : List Nat).take 1) = [] from rfl, decide_eq_false (by decide : ¬ ([] : List Nat) = [93])]
        walk_at "g"
        refine Gx.newT (by simp) (fun t H2 E2 => ?_)
        exact q H2 t E2.same (SqT.of E2.at_)
      | cons d u =>
        rw [show ((d :: u).take 1) = [d] from rfl]
        rw [hs] at hw hlen
        by_cases h93 : d = 93
        · subst h93
          rw [decide_eq_true (rfl : [93] = [93])]
          walk_at "g"
          rw [decide_eq_true (by decide : oneS = [111, 110, 101])]
          rw [List.length_cons] at hw hlen
          by_cases hnil : (spanA 0 r).1 = []
          · have e : leafOf true r = .bad (93 :: u) := by unfold leafOf; rw [if_neg (by decide), if_pos hnil, hs]
            rw [e] at q
            rw [hnil] at hw
            walk_at "g"
            rw [decide_eq_true (show ((l.length - (93 :: u).length : Nat) : Int) = (a : Int) + 1 by rw [List.length_cons]; simp at hw; omega)]
            walk_at "g"
            refine Gx.newT (by simp) (fun t H2 E2 => ?_)
            exact q H2 t E2.same (SqT.of E2.at_)
          · have e : leafOf true r = .ok (.one (spanA 0 r).1) u := by unfold leafOf; rw [if_neg (by decide), if_neg hnil, hs]; rfl
            rw [e] at q
            have hpos := List.length_pos_iff.mpr hnil
            walk_at "g"
            rw [decide_eq_false (show ¬ ((l.length - (93 :: u).length : Nat) : Int) = (a : Int) + 1 by rw [List.length_cons]; omega)]
            walk_at "g"
            have ep : (l.take (((l.length - (93 :: u).length : Nat) : Int)).toNat).drop ((a : Int) + 1).toNat = (spanA 0 r).1 := by
              rw [Int.toNat_natCast, show ((a : Int) + 1).toNat = a + 1 by omega]
              exact piece (by rw [hdr, ← hs]; exact spanA_suf r 0) (by omega)
            rw [ep]
            refine Gx.newT (by simp) (fun tw H1 E1 => ?_)
            walk_at "g"
            refine Gx.newT (by simp) (fun tt H2 E2 => ?_)
            refine q H2 tt (.ref tw) (E1.same.trans E2.same) ?_ (.tup (E2.same.seqT (SqT.of E1.at_)) (.cons (.str _) (.cons (.str _) .nil)))
            rw [show ((l.length - u.length : Nat) : Int) = ((l.length - (93 :: u).length : Nat) : Int) + 1 by rw [List.length_cons]; omega]
            exact SqT.of E2.at_
        · have e : leafOf true r = .bad (d :: u) := by
            unfold leafOf
            rw [if_neg (by decide), hs]
            split
            · rfl
            · split
              · rename_i e; injection e with e _; exact absurd e h93
              · rfl
          rw [e] at q
          rw [decide_eq_false (fun z : [d] = [93] => h93 (by simpa using z))]
          walk_at "g"
          refine Gx.newT (by simp) (fun t H2 E2 => ?_)
          exact q H2 t E2.same (SqT.of E2.at_)
end
end K13
namespace K13
open PySem PySem.Spec PyProof.Rows L2
local macro_rules | `(tactic| walk_at "con") => `(tactic| first | with_reducible refine Gx.conE K13.ks0 ?_ | with_reducible refine Gx.conE K13.ks1 ?_ | with_reducible refine Gx.conE K13.ks2 ?_ | with_reducible refine Gx.conE K13.ks3 ?_ | with_reducible refine Gx.conE K13.ks4 ?_ | with_reducible refine Gx.conE K13.ks5 ?_ | with_reducible refine Gx.conE K13.ks6 ?_ | with_reducible refine Gx.conE K13.ks7 ?_ | with_reducible refine Gx.conE K13.ks8 ?_ | with_reducible refine Gx.conE K13.ks9 ?_ | with_reducible refine Gx.conE K13.ks10 ?_ | with_reducible refine Gx.conE K13.ks11 ?_ | with_reducible refine Gx.conE K13.ks12 ?_ | with_reducible refine Gx.conE K13.ks13 ?_ | with_reducible refine Gx.conE K13.ks14 ?_ | with_reducible refine Gx.conE K13.ks15 ?_ | with_reducible refine Gx.conE K13.ks16 ?_ | with_reducible refine Gx.conE K13.ks17 ?_ | with_reducible refine Gx.conE K13.ks18 ?_ | with_reducible refine Gx.conE K13.ks19 ?_ | with_reducible refine Gx.conE K13.ks20 ?_ | with_reducible refine Gx.conE K13.ks21 ?_ | with_reducible refine Gx.conE K13.ks22 ?_ | with_reducible refine Gx.conE K13.ks23 ?_ | with_reducible refine Gx.conE K13.ks24 ?_ | with_reducible refine Gx.conE K13.ks25 ?_ | with_reducible refine Gx.conE K13.ks26 ?_ | with_reducible refine Gx.conE K13.ks27 ?_ | with_reducible refine Gx.conE K13.ks28 ?_ | with_reducible refine Gx.conE K13.ks29 ?_ | with_reducible refine Gx.conE K13.ks30 ?_ | with_reducible refine Gx.conE K13.ks31 ?_ | with_reducible refine Gx.conE K13.ks32 ?_ | with_reducible refine Gx.conE K13.ks33 ?_ | with_reducible refine Gx.conE K13.ks34 ?_ | with_reducible refine Gx.conE K13.ks35 ?_ | with_reducible refine Gx.conE K13.ks36 ?_ | with_reducible refine Gx.conE K13.ks37 ?_ | with_reducible refine Gx.conE K13.ks38 ?_ | with_reducible refine Gx.conE K13.ks39 ?_ | with_reducible refine Gx.conE K13.ks40 ?_ | with_reducible refine Gx.conE K13.ks41 ?_ | with_reducible refine Gx.conE K13.ks42 ?_ | with_reducible refine Gx.conE K13.ks43 ?_ | with_reducible refine Gx.conE K13.ks44 ?_ | with_reducible refine Gx.conE K13.ks45 ?_ | with_reducible refine Gx.conE K13.ks46 ?_ | with_reducible refine Gx.conE K13.ks47 ?_ | with_reducible refine Gx.conE K13.ks48 ?_ | with_reducible refine Gx.conE K13.ks49 ?_ | with_reducible refine Gx.conE K13.ks50 ?_ | with_reducible refine Gx.conE K13.ks51 ?_ | with_reducible refine Gx.conE K13.ks52 ?_ | with_reducible refine Gx.conE K13.ks53 ?_ | with_reducible refine Gx.conE K13.ks54 ?_ | with_reducible refine Gx.conE K13.ks55 ?_ | with_reducible refine Gx.conE K13.ks56 ?_ | with_reducible refine Gx.conE K13.ks57 ?_ | with_reducible refine Gx.conE K13.ks58 ?_ | with_reducible refine Gx.conE K13.ks59 ?_ | with_reducible refine Gx.conE K13.ks60 ?_ | with_reducible refine Gx.conE K13.ks61 ?_ | with_reducible refine Gx.conE K13.ks62 ?_ | with_reducible refine Gx.conE K13.ks63 ?_)
section
variable {P : Program} {w : World} {K : PySem.W.Frag} {mg : Str → Option Value} {base : Heap}
/-! ### the frames of the law's reader, as they stand in memory -/
structure FRm where
  fa : Addr
  a : Addr
  b : Addr
  u : List V
  v : List V
  fr : Fr
def adr (x : FRm) : List Addr := [x.fa, x.a, x.b]
def FAt (K : PySem.W.Frag) (H : Hp) (x : FRm) : Prop := H x.fa = some (.lst [.ref x.a, .ref x.b]) ∧ H x.a = some (.lst x.u) ∧ H x.b = some (.lst x.v) ∧ DpAll K H x.u (x.fr.1.map patD) ∧ DpAll K H x.v (x.fr.2.map patD)
structure Frames (K : PySem.W.Frag) (H0 H : Hp) (F : Addr) (L : List FRm) : Prop where
  top : H F = some (.lst (L.map fun x => V.ref x.fa))
  at_ : ∀ x ∈ L, FAt K H x
  nd : (F :: L.flatMap adr).Nodup
  fresh : ∀ p ∈ F :: L.flatMap adr, H0 p = none
theorem FAt.keep {H H' : Hp} {x : FRm} (h : FAt K H x) (e : ∀ p ∈ adr x, H' p = H p) (t : Gx.Tups K H H') : FAt K H' x := by
  obtain ⟨h1, h2, h3, h4, h5⟩ := h
  refine ⟨by rw [e _ (by simp [adr])]; exact h1, by rw [e _ (by simp [adr])]; exact h2, by rw [e _ (by simp [adr])]; exact h3, Gx.dpAll_tups t _ _ (noLs_pats _) h4, Gx.dpAll_tups t _ _ (noLs_pats _) h5⟩
theorem Frames.some_at {H0 H : Hp} {F : Addr} {L : List FRm} (h : Frames K H0 H F L) {p : Addr} (hp : p ∈ F :: L.flatMap adr) : ∃ xs, H p = some (.lst xs) := by
  rcases List.mem_cons.mp hp with rfl | hp
  · exact ⟨_, h.top⟩
  · obtain ⟨x, hx, hp⟩ := List.mem_flatMap.mp hp
    obtain ⟨h1, h2, h3, _⟩ := h.at_ x hx
    unfold adr at hp
    simp only [List.mem_cons, List.not_mem_nil, or_false] at hp
    rcases hp with rfl | rfl | rfl
    · exact ⟨_, h1⟩
    · exact ⟨_, h2⟩
    · exact ⟨_, h3⟩
theorem Frames.new_ne {H0 H : Hp} {F q : Addr} {L : List FRm} (h : Frames K H0 H F L) (hq : H q = none) : q ∉ F :: L.flatMap adr := fun z => by
  obtain ⟨xs, e⟩ := h.some_at z
  rw [hq] at e
  cases e
/-- H' is H but for some lists, and new things -/
theorem Frames.same {H0 H H' : Hp} {F : Addr} {L : List FRm} (h : Frames K H0 H F L) (s : Same H H') : Frames K H0 H' F L :=
  ⟨s _ _ h.top, fun x hx => let ⟨h1, h2, h3, h4, h5⟩ := h.at_ x hx; ⟨s _ _ h1, s _ _ h2, s _ _ h3, Gx.dpAll_same s _ _ h4, Gx.dpAll_same s _ _ h5⟩, h.nd, h.fresh⟩
theorem flat_snoc (Lb : List FRm) (x : FRm) : (Lb ++ [x]).flatMap adr = Lb.flatMap adr ++ adr x := by
  rw [List.flatMap_append]
  simp
structure Split (H0 H : Hp) (F : Addr) (Lb : List FRm) (x : FRm) (K : PySem.W.Frag) : Prop where
  f : FAt K H x
  fs : ∀ y ∈ Lb, FAt K H y
  out : ∀ y ∈ Lb, ∀ p ∈ adr y, p ≠ F ∧ p ≠ x.fa ∧ p ≠ x.a ∧ p ≠ x.b
  n1 : x.fa ≠ F ∧ x.a ≠ F ∧ x.b ≠ F
  n2 : x.fa ≠ x.a ∧ x.fa ≠ x.b ∧ x.a ≠ x.b
  nd : (F :: Lb.flatMap adr).Nodup
  fr : H0 F = none ∧ H0 x.fa = none ∧ H0 x.a = none ∧ H0 x.b = none
  frb : ∀ p ∈ Lb.flatMap adr, H0 p = none
theorem Frames.split {H0 H : Hp} {F : Addr} {Lb : List FRm} {x : FRm} (h : Frames K H0 H F (Lb ++ [x])) : Split H0 H F Lb x K := by
  have hnd := h.nd
  have hfr := h.fresh
  rw [flat_snoc] at hnd hfr
  have hx : ∀ p ∈ adr x, p ∈ F :: (Lb.flatMap adr ++ adr x) := fun p hp => List.mem_cons_of_mem _ (List.mem_append_right _ hp)
  have h1 := List.nodup_cons.mp hnd
  have h2 := List.nodup_append.mp h1.2
  have h3 : (adr x).Nodup := h2.2.1
  unfold adr at h3
  simp only [List.nodup_cons, List.mem_cons, List.not_mem_nil, or_false, not_or] at h3
  have hF : ∀ p ∈ adr x, p ≠ F := fun p hp e => h1.1 (List.mem_append_right _ (e ▸ hp))
  refine ⟨h.at_ x (by simp), fun y hy => h.at_ y (List.mem_append_left _ hy), fun y hy p hp => ?_, ⟨hF _ (by simp [adr]), hF _ (by simp [adr]), hF _ (by simp [adr])⟩, ⟨h3.1.1, h3.1.2, h3.2.1⟩, ?_, ⟨hfr _ List.mem_cons_self, hfr _ (hx _ (by simp [adr])), hfr _ (hx _ (by simp [adr])), hfr _ (hx _ (by simp [adr]))⟩, fun p hp => hfr p (List.mem_cons_of_mem _ (List.mem_append_left _ hp))⟩
  · have hm : p ∈ Lb.flatMap adr := List.mem_flatMap.mpr ⟨y, hy, hp⟩
    exact ⟨fun e => h1.1 (List.mem_append_left _ (e ▸ hm)), fun e => h2.2.2 p hm _ (by simp [adr]) e, fun e => h2.2.2 p hm _ (by simp [adr]) e, fun e => h2.2.2 p hm _ (by simp [adr]) e⟩
  · exact List.nodup_cons.mpr ⟨fun z => h1.1 (List.mem_append_left _ z), h2.1⟩
theorem Split.frames {H0 H H' : Hp} {F : Addr} {Lb : List FRm} {x y : FRm} (s : Split H0 H F Lb x K) (top : H' F = some (.lst ((Lb ++ [y]).map fun x => V.ref x.fa))) (keep : ∀ p ∈ Lb.flatMap adr, H' p = H p) (t : Gx.Tups K H H') (f : FAt K H' y)
    (out : ∀ p ∈ adr y, p ∉ F :: Lb.flatMap adr) (nd : (adr y).Nodup) (fr : ∀ p ∈ adr y, H0 p = none) : Frames K H0 H' F (Lb ++ [y]) := by
  refine ⟨top, fun z hz => ?_, ?_, fun p hp => ?_⟩
  · rcases List.mem_append.mp hz with hz | hz
    · exact (s.fs z hz).keep (fun p hp => keep p (List.mem_flatMap.mpr ⟨z, hz, hp⟩)) t
    · rw [List.mem_singleton.mp hz]; exact f
  · rw [flat_snoc]
    have h1 := List.nodup_cons.mp s.nd
    refine List.nodup_cons.mpr ⟨fun z => ?_, List.nodup_append.mpr ⟨h1.2, nd, fun p hp q hq e => out q hq (e ▸ List.mem_cons_of_mem _ hp)⟩⟩
    rcases List.mem_append.mp z with z | z
    · exact h1.1 z
    · exact out _ z List.mem_cons_self
  · rw [flat_snoc] at hp
    rcases List.mem_cons.mp hp with rfl | hp
    · exact s.fr.1
    · rcases List.mem_append.mp hp with hp | hp
      · exact s.frb p hp
      · exact fr p hp
/-- the top frame's items are others -/
theorem Frames.setb {H0 H : Hp} {F : Addr} {Lb : List FRm} {x : FRm} (h : Frames K H0 H F (Lb ++ [x])) {v' : List V} {qs : List Pat} (d : DpAll K H v' (qs.map patD)) : Frames K H0 (upd H x.b (.lst v')) F (Lb ++ [{ x with v := v', fr := (x.fr.1, qs) }]) := by
  have s := h.split
  obtain ⟨f1, f2, f3, f4, f5⟩ := s.f
  have t : Gx.Tups K H (upd H x.b (.lst v')) := Gx.Tups.upd f3
  have hout : ∀ p ∈ adr x, p ∉ F :: Lb.flatMap adr := fun p hp z => by
    have hnd := h.nd
    rw [flat_snoc] at hnd
    have h1 := List.nodup_cons.mp hnd
    rcases List.mem_cons.mp z with rfl | z
    · exact h1.1 (List.mem_append_right _ hp)
    · exact (List.nodup_append.mp h1.2).2.2 p z p hp rfl
  refine s.frames ?_ (fun p hp => ?_) t ⟨?_, ?_, upd_same, Gx.dpAll_tups t _ _ (noLs_pats _) f4, Gx.dpAll_tups t _ _ (noLs_pats _) d⟩ hout ?_ ?_
  · rw [upd_ne (Ne.symm s.n1.2.2), h.top]
    simp
  · obtain ⟨y, hy, hp⟩ := List.mem_flatMap.mp hp
    rw [upd_ne (s.out y hy p hp).2.2.2]
  · rw [upd_ne s.n2.2.1]; exact f1
  · rw [upd_ne s.n2.2.2]; exact f2
  · have := s.n2
    simp [adr, this.1, this.2.1, this.2.2]
  · intro p hp
    unfold adr at hp
    simp only [List.mem_cons, List.not_mem_nil, or_false] at hp
    rcases hp with rfl | rfl | rfl
    · exact s.fr.2.1
    · exact s.fr.2.2.1
    · exact s.fr.2.2.2
/-- a new frame above -/
theorem Frames.push {H0 H H3 : Hp} {F fa a b : Addr} {L : List FRm} (h : Frames K H0 H F L) (s : Same H H3) (na : H a = none) (nb : H b = none) (nf : H fa = none) (ne : fa ≠ a ∧ fa ≠ b ∧ a ≠ b) (ea : H3 a = some (.lst [])) (eb : H3 b = some (.lst [])) (ef : H3 fa = some (.lst [.ref a, .ref b])) (sm : Same H0 H) :
    Frames K H0 (upd H3 F (.lst (L.map (fun x => V.ref x.fa) ++ [.ref fa]))) F (L ++ [⟨fa, a, b, [], [], ([], [])⟩]) := by
  have top3 := s _ _ h.top
  have t : Gx.Tups K H3 (upd H3 F (.lst (L.map (fun x => V.ref x.fa) ++ [.ref fa]))) := Gx.Tups.upd top3
  have na' := h.new_ne na
  have nb' := h.new_ne nb
  have nf' := h.new_ne nf
  have hF : ∀ q, q ∉ F :: L.flatMap adr → q ≠ F := fun q hq e => hq (e ▸ List.mem_cons_self)
  have h1 := List.nodup_cons.mp h.nd
  refine ⟨by rw [upd_same, List.map_append]; rfl, fun x hx => ?_, ?_, fun p hp => ?_⟩
  · rcases List.mem_append.mp hx with hx | hx
    · refine ((h.same s).at_ x hx).keep (fun p hp => upd_ne fun e => ?_) t
      exact h1.1 (e ▸ List.mem_flatMap.mpr ⟨x, hx, hp⟩)
    · rw [List.mem_singleton.mp hx]
      exact ⟨by rw [upd_ne (hF _ nf')]; exact ef, by rw [upd_ne (hF _ na')]; exact ea, by rw [upd_ne (hF _ nb')]; exact eb, .nil, .nil⟩
  · rw [flat_snoc]
    have hm : ∀ q ∈ ([fa, a, b] : List Addr), q ∉ F :: L.flatMap adr := fun q hq => by
      simp only [List.mem_cons, List.not_mem_nil, or_false] at hq
      rcases hq with rfl | rfl | rfl
      · exact nf'
      · exact na'
      · exact nb'
    refine List.nodup_cons.mpr ⟨fun z => ?_, List.nodup_append.mpr ⟨h1.2, ?_, fun p hp q hq e => hm q hq (e ▸ List.mem_cons_of_mem _ hp)⟩⟩
    · rcases List.mem_append.mp z with z | z
      · exact h1.1 z
      · exact hm F z List.mem_cons_self
    · simp [adr, ne.1, ne.2.1, ne.2.2]
  · rw [flat_snoc] at hp
    have fr : ∀ q, H q = none → H0 q = none := fun q hq => fresh_of sm hq
    rcases List.mem_cons.mp hp with rfl | hp
    · exact h.fresh _ List.mem_cons_self
    · rcases List.mem_append.mp hp with hp | hp
      · exact h.fresh p (List.mem_cons_of_mem _ hp)
      · unfold adr at hp
        simp only [List.mem_cons, List.not_mem_nil, or_false] at hp
        rcases hp with rfl | rfl | rfl
        · exact fr _ nf
        · exact fr _ na
        · exact fr _ nb
/-- the top frame goes on with one more part, and no items: a new list for it -/
theorem Frames.next {H0 H H1 H3 : Hp} {F fa b : Addr} {Lb : List FRm} {x : FRm} {v : V} {p : Pat} (h : Frames K H0 H F (Lb ++ [x])) (d : Dp K H v (patD p)) (e1 : H1 = upd H x.a (.lst (x.u ++ [v]))) (s : Same H1 H3) (nb : H1 b = none) (nf : H1 fa = none) (ne : fa ≠ b) (eb : H3 b = some (.lst [])) (ef : H3 fa = some (.lst [.ref x.a, .ref b])) (sm : Same H0 H) :
    Frames K H0 (upd H3 F (.lst (((Lb ++ [x]).map fun x => V.ref x.fa).set Lb.length (.ref fa)))) F (Lb ++ [⟨fa, x.a, b, x.u ++ [v], [], (x.fr.1 ++ [p], [])⟩]) := by
  have sp := h.split
  obtain ⟨f1, f2, f3, f4, f5⟩ := sp.f
  have t1 : Gx.Tups K H H1 := by rw [e1]; exact Gx.Tups.upd f2
  have eF1 : H1 F = some (.lst ((Lb ++ [x]).map fun x => V.ref x.fa)) := by rw [e1, upd_ne (Ne.symm sp.n1.2.1)]; exact h.top
  have t3 : Gx.Tups K H3 (upd H3 F (.lst (((Lb ++ [x]).map fun x => V.ref x.fa).set Lb.length (.ref fa)))) := Gx.Tups.upd (s _ _ eF1)
  have t : Gx.Tups K H (upd H3 F (.lst (((Lb ++ [x]).map fun x => V.ref x.fa).set Lb.length (.ref fa)))) := fun a xs q => t3 a xs (s.seqT (t1 a xs q))
  have some1 : ∀ q, q ∈ F :: (Lb ++ [x]).flatMap adr → ∃ xs, H1 q = some (.lst xs) := fun q hq => by
    obtain ⟨xs, e⟩ := h.some_at hq
    rw [e1]
    by_cases hq2 : q = x.a
    · subst hq2; exact ⟨_, upd_same⟩
    · exact ⟨xs, by rw [upd_ne hq2]; exact e⟩
  have nw : ∀ q, H1 q = none → q ∉ F :: (Lb ++ [x]).flatMap adr := fun q hq z => by
    obtain ⟨xs, e⟩ := some1 q z
    rw [hq] at e
    cases e
  have inx : ∀ q ∈ adr x, q ∈ F :: (Lb ++ [x]).flatMap adr := fun q hq => by rw [flat_snoc]; exact List.mem_cons_of_mem _ (List.mem_append_right _ hq)
  have nbF : b ≠ F := fun e => nw b nb (e ▸ List.mem_cons_self)
  have nfF : fa ≠ F := fun e => nw fa nf (e ▸ List.mem_cons_self)
  have nba : b ≠ x.a := fun e => nw b nb (e ▸ inx _ (by simp [adr]))
  have nfa : fa ≠ x.a := fun e => nw fa nf (e ▸ inx _ (by simp [adr]))
  have sub : ∀ q ∈ F :: Lb.flatMap adr, q ∈ F :: (Lb ++ [x]).flatMap adr := fun q hq => by
    rw [flat_snoc]
    rcases List.mem_cons.mp hq with rfl | hq
    · exact List.mem_cons_self
    · exact List.mem_cons_of_mem _ (List.mem_append_left _ hq)
  refine sp.frames ?_ (fun q hq => ?_) t ⟨?_, ?_, ?_, ?_, .nil⟩ (fun q hq z => ?_) ?_ (fun q hq => ?_)
  · rw [upd_same, List.map_append, List.map_append]
    congr 2
    rw [List.set_append_right _ _ (by rw [List.length_map]; exact Nat.le_refl _), List.length_map, Nat.sub_self]
    rfl
  · obtain ⟨y, hy, hq⟩ := List.mem_flatMap.mp hq
    have o := sp.out y hy q hq
    rw [upd_ne o.1]
    have e : H1 q = H q := by rw [e1, upd_ne o.2.2.1]
    obtain ⟨xs, e2⟩ := some1 q (sub q (List.mem_cons_of_mem _ (List.mem_flatMap.mpr ⟨y, hy, hq⟩)))
    rw [s _ _ e2, ← e, e2]
  · rw [upd_ne nfF]; exact ef
  · rw [upd_ne sp.n1.2.1]
    exact s _ _ (by rw [e1]; exact upd_same)
  · rw [upd_ne nbF]; exact eb
  · show DpAll K _ (x.u ++ [v]) ((x.fr.1 ++ [p]).map patD)
    rw [show (x.fr.1 ++ [p]).map patD = x.fr.1.map patD ++ [p].map patD from List.map_append]
    have nl : Gx.noLs (x.fr.1.map patD ++ [p].map patD) = true := by rw [← List.map_append]; exact noLs_pats _
    exact Gx.dpAll_tups t _ _ nl (Gx.dpAll_app f4 (.cons d .nil))
  · unfold adr at hq
    simp only [List.mem_cons, List.not_mem_nil, or_false] at hq
    rcases hq with rfl | rfl | rfl
    · exact nw _ nf (sub _ z)
    · rcases List.mem_cons.mp z with e | z
      · exact sp.n1.2.1 e
      · obtain ⟨y, hy, hq⟩ := List.mem_flatMap.mp z
        exact (sp.out y hy _ hq).2.2.1 rfl
    · exact nw _ nb (sub _ z)
  · simp [adr, nfa, ne, Ne.symm nba]
  · unfold adr at hq
    simp only [List.mem_cons, List.not_mem_nil, or_false] at hq
    have fr1 : ∀ q, H1 q = none → H0 q = none := fun q hq => by
      refine fresh_of sm ?_
      cases e : H q with
      | none => rfl
      | some o =>
        by_cases hq2 : q = x.a
        · rw [hq2, e1, upd_same] at hq; cases hq
        · rw [e1, upd_ne hq2, e] at hq; cases hq
    rcases hq with rfl | rfl | rfl
    · exact fr1 _ nf
    · exact sp.fr.2.2.1
    · exact fr1 _ nb
/-- the top frame is taken off -/
theorem Frames.pop {H0 H : Hp} {F : Addr} {Lb : List FRm} {x : FRm} (h : Frames K H0 H F (Lb ++ [x])) : Frames K H0 (upd H F (.lst (Lb.map fun x => V.ref x.fa))) F Lb := by
  have sp := h.split
  have t : Gx.Tups K H (upd H F (.lst (Lb.map fun x => V.ref x.fa))) := Gx.Tups.upd h.top
  refine ⟨upd_same, fun y hy => (sp.fs y hy).keep (fun p hp => upd_ne (sp.out y hy p hp).1) t, sp.nd, fun p hp => ?_⟩
  rcases List.mem_cons.mp hp with rfl | hp
  · exact sp.fr.1
  · exact sp.frb p hp
end
end K13
namespace K13
open PySem PySem.Spec PyProof.Rows L2
local macro_rules | `(tactic| walk_at "con") => `(tactic| first | with_reducible refine Gx.conE K13.ks0 ?_ | with_reducible refine Gx.conE K13.ks1 ?_ | with_reducible refine Gx.conE K13.ks2 ?_ | with_reducible refine Gx.conE K13.ks3 ?_ | with_reducible refine Gx.conE K13.ks4 ?_ | with_reducible refine Gx.conE K13.ks5 ?_ | with_reducible refine Gx.conE K13.ks6 ?_ | with_reducible refine Gx.conE K13.ks7 ?_ | with_reducible refine Gx.conE K13.ks8 ?_ | with_reducible refine Gx.conE K13.ks9 ?_ | with_reducible refine Gx.conE K13.ks10 ?_ | with_reducible refine Gx.conE K13.ks11 ?_ | with_reducible refine Gx.conE K13.ks12 ?_ | with_reducible refine Gx.conE K13.ks13 ?_ | with_reducible refine Gx.conE K13.ks14 ?_ | with_reducible refine Gx.conE K13.ks15 ?_ | with_reducible refine Gx.conE K13.ks16 ?_ | with_reducible refine Gx.conE K13.ks17 ?_ | with_reducible refine Gx.conE K13.ks18 ?_ | with_reducible refine Gx.conE K13.ks19 ?_ | with_reducible refine Gx.conE K13.ks20 ?_ | with_reducible refine Gx.conE K13.ks21 ?_ | with_reducible refine Gx.conE K13.ks22 ?_ | with_reducible refine Gx.conE K13.ks23 ?_ | with_reducible refine Gx.conE K13.ks24 ?_ | with_reducible refine Gx.conE K13.ks25 ?_ | with_reducible refine Gx.conE K13.ks26 ?_ | with_reducible refine Gx.conE K13.ks27 ?_ | with_reducible refine Gx.conE K13.ks28 ?_ | with_reducible refine Gx.conE K13.ks29 ?_ | with_reducible refine Gx.conE K13.ks30 ?_ | with_reducible refine Gx.conE K13.ks31 ?_ | with_reducible refine Gx.conE K13.ks32 ?_ | with_reducible refine Gx.conE K13.ks33 ?_ | with_reducible refine Gx.conE K13.ks34 ?_ | with_reducible refine Gx.conE K13.ks35 ?_ | with_reducible refine Gx.conE K13.ks36 ?_ | with_reducible refine Gx.conE K13.ks37 ?_ | with_reducible refine Gx.conE K13.ks38 ?_ | with_reducible refine Gx.conE K13.ks39 ?_ | with_reducible refine Gx.conE K13.ks40 ?_ | with_reducible refine Gx.conE K13.ks41 ?_ | with_reducible refine Gx.conE K13.ks42 ?_ | with_reducible refine Gx.conE K13.ks43 ?_ | with_reducible refine Gx.conE K13.ks44 ?_ | with_reducible refine Gx.conE K13.ks45 ?_ | with_reducible refine Gx.conE K13.ks46 ?_ | with_reducible refine Gx.conE K13.ks47 ?_ | with_reducible refine Gx.conE K13.ks48 ?_ | with_reducible refine Gx.conE K13.ks49 ?_ | with_reducible refine Gx.conE K13.ks50 ?_ | with_reducible refine Gx.conE K13.ks51 ?_ | with_reducible refine Gx.conE K13.ks52 ?_ | with_reducible refine Gx.conE K13.ks53 ?_ | with_reducible refine Gx.conE K13.ks54 ?_ | with_reducible refine Gx.conE K13.ks55 ?_ | with_reducible refine Gx.conE K13.ks56 ?_ | with_reducible refine Gx.conE K13.ks57 ?_ | with_reducible refine Gx.conE K13.ks58 ?_ | with_reducible refine Gx.conE K13.ks59 ?_ | with_reducible refine Gx.conE K13.ks60 ?_ | with_reducible refine Gx.conE K13.ks61 ?_ | with_reducible refine Gx.conE K13.ks62 ?_ | with_reducible refine Gx.conE K13.ks63 ?_)
section
variable {P : Program} {w : World} {K : PySem.W.Frag} {mg : Str → Option Value} {base : Heap}
/-- what the law's pattern reader tells -/
def LQ (K : PySem.W.Frag) (l : List Nat) (x : Option Pat × List Nat) (H : Hp) (Q : VK) : Prop := ∀ H' t v, Same H H' → SqT K H' t [v, .int ((l.length - x.2.length : Nat) : Nat)] → (match x.1 with
  | some p => Dp K H' v (patD p)
  | none => v = .non) → Q (.ref t) H'
def sp_lread (K : PySem.W.Frag) : Sp := fun vs H Q _ => ∃ (l : List Nat) (st : Nat), vs = [.str (Gx.mkS l), .int (st : Nat)] ∧ st ≤ l.length ∧ l.length ≤ 100000 ∧ LQ K l (lrun l.length [] ([], []) true (l.drop st)) H Q
/-- between two turns -/
structure LInv (K : PySem.W.Frag) (l : List Nat) (st : Nat) (H0 H : Hp) (F : Addr) (Lb : List FRm) (x : FRm) (wt : Bool) (a i : Nat) : Prop where
  fr : Frames K H0 H F (Lb ++ [x])
  sm : Same H0 H
  al : a ≤ l.length
  go : st + i ≤ a
  run : lrun (l.length - i) (Lb.map (·.fr)).reverse x.fr wt (l.drop a) = lrun l.length [] ([], []) true (l.drop st)
  ne : wt = false → x.fr.2 ≠ []
  sz : ∀ y ∈ Lb ++ [x], y.fr.1.length ≤ a ∧ y.fr.2.length ≤ a
  ln : Lb.length ≤ a
theorem snoc_of {α : Type} {l : List α} (h : l ≠ []) : ∃ ys t, l = ys ++ [t] := ⟨l.dropLast, l.getLast h, (List.dropLast_concat_getLast h).symm⟩
theorem dp_snoc {H : Hp} : ∀ {vs : List V} {ds : List PyData} {d : PyData}, DpAll K H vs (ds ++ [d]) → ∃ vs' v, vs = vs' ++ [v] ∧ DpAll K H vs' ds ∧ Dp K H v d
  | _, [], _, .cons h .nil => ⟨[], _, rfl, .nil, h⟩
  | _, _ :: _, _, .cons h t => by
    obtain ⟨vs', v, e, h1, h2⟩ := dp_snoc t
    exact ⟨_ :: vs', v, by rw [e]; rfl, .cons h h1, h2⟩
theorem atI_pen {xs : List V} {v : V} : atI (xs ++ [v]) (-1) = some v := atI_last _ _
theorem FAt.lens {H : Hp} {x : FRm} (h : FAt K H x) : x.u.length = x.fr.1.length ∧ x.v.length = x.fr.2.length := by
  have h1 := Gx.dpAll_len h.2.2.2.1
  have h2 := Gx.dpAll_len h.2.2.2.2
  rw [List.length_map] at h1 h2
  exact ⟨h1, h2⟩
set_option maxHeartbeats 8000000 in
theorem G__law_read_pattern (T : Txt K mg w) : FnOk P w K mg base CX0 3 T.f__law_read_pattern T.fd__law_read_pattern ["text", "at"] (sp_lread K) := by
  have G__law_folded := G__law_folded (P := P) (w := w) (base := base) T
  have G__law_read_item := G__law_read_item (P := P) (w := w) (base := base) T
  refine T.F__law_read_pattern.ok sc__law_read_pattern (fun vs H Q E h => ?_) (fun cdv A outer s H vs Q E hr h => ?_)
  · obtain ⟨l, st, rfl, _⟩ := h
    rfl
  · obtain ⟨l, st, rfl, hst, hl, q⟩ := h
    refine ⟨_, ((pss_cons (ps_set (i := 2) sc__law_read_pattern.nd rfl (Or.inl rfl) (pe_lst (pa_cons (pe_lst (pa_cons (pe_lst pa_nil) (pa_cons (pe_lst pa_nil) pa_nil))) pa_nil)))
  (pss_cons (ps_set (i := 3) sc__law_read_pattern.nd rfl (Or.inl rfl) pe_bl)
  (pss_cons (ps_for PassesOwn.never rfl (pi_range1 rfl T.z_range (pa_cons (pe_op op_add (pe_callB Gx.cr_lenS (by rfl) T.z_len bt_len (pa_cons (pv 0) pa_nil)) pe_int) pa_nil)) (pg_name (i := 4) sc__law_read_pattern.nd rfl (Or.inl rfl))
  (pss_cons (ps_set (i := 5) sc__law_read_pattern.nd rfl (Or.inl rfl) (pe_slice sl_str (pv 0) (po_some (pv 1)) (po_some (pe_op op_add (pv 1) pe_int))))
  (pss_cons (ps_set (i := 6) sc__law_read_pattern.nd rfl (Or.inl rfl) (pe_ix ix_list (pv 2) (pe_un un_neg pe_int) (fun _ _ => rfl)))
  (pss_one (ps_if (PW.pt (pw_or (pt_cmpR op_eq (pv 5) pe_str (nomark _)) (pw_or1 (pt_cmpR op_eq (pv 5) pe_str (nomark _)))))
  (pss_cons (ps_asg (pe_call G__law_read_item (hr.mono (by first | decide | omega)) (by rfl) T.g__law_read_item T.F__law_read_item.kp T.b__law_read_item .nil pass0 (pa_cons (pv 0) (pa_cons (pv 1) pa_nil))) (pg_tup rfl (pgs_cons (pg_name (i := 7) sc__law_read_pattern.nd rfl (Or.inl rfl)) (pgs_cons (pg_name (i := 1) sc__law_read_pattern.nd rfl (Or.inl rfl)) pgs_nil))))
  (pss_cons (ps_if (pt_cmpR Gx.op_isNG (pv 7) pe_non (nomark _))
  (pss_one (ps_ret (pe_tup (pa_cons pe_non (pa_cons (pv 1) pa_nil)))))
  pss_nil)
  (pss_cons (ps_expr (pe_bm PySem.F.plainAttrs_list PySem.F.slot_list_append PySem.F.type_list_append mt_append (pe_ix ix_list (pv 6) pe_int (fun _ _ => rfl)) (pa_cons (pv 7) pa_nil)))
  (pss_one (ps_set (i := 3) sc__law_read_pattern.nd rfl (Or.inl rfl) pe_bl)))))
  (pss_one (ps_if (pt_cmpR op_eq (pv 5) pe_str (nomark _))
  (pss_cons (ps_expr (pe_bm PySem.F.plainAttrs_list PySem.F.slot_list_append PySem.F.type_list_append mt_append (pv 2) (pa_cons (pe_lst (pa_cons (pe_lst pa_nil) (pa_cons (pe_lst pa_nil) pa_nil))) pa_nil)))
  (pss_cons (ps_set (i := 3) sc__law_read_pattern.nd rfl (Or.inl rfl) pe_bl)
  (pss_one (ps_set (i := 1) sc__law_read_pattern.nd rfl (Or.inl rfl) (pe_op op_add (pv 1) pe_int)))))
  (pss_one (ps_if (pt_val (pv 3))
  (pss_one (ps_ret (pe_tup (pa_cons pe_non (pa_cons (pv 1) pa_nil)))))
  (pss_one (ps_if (pt_cmpR op_eq (pv 5) pe_str (nomark _))
  (pss_cons (ps_expr (pe_bm PySem.F.plainAttrs_list PySem.F.slot_list_append PySem.F.type_list_append mt_append (pe_ix ix_list (pv 6) pe_int (fun _ _ => rfl)) (pa_cons (pe_tup (pa_cons pe_str (pa_cons (pe_bm0 PySem.F.plainAttrs_list PySem.F.slot_list_pop PySem.F.type_list_pop mt_pop (pe_ix ix_list (pv 6) pe_int (fun _ _ => rfl))) pa_nil))) pa_nil)))
  (pss_one (ps_set (i := 1) sc__law_read_pattern.nd rfl (Or.inl rfl) (pe_op op_add (pv 1) pe_int))))
  (pss_one (ps_if (pt_cmpR op_eq (pv 5) pe_str (nomark _))
  (pss_cons (ps_expr (pe_bm PySem.F.plainAttrs_list PySem.F.slot_list_append PySem.F.type_list_append mt_append (pe_ix ix_list (pv 6) pe_int (fun _ _ => rfl)) (pa_cons (pe_call G__law_folded (hr.mono (by first | decide | omega)) (by rfl) T.g__law_folded T.F__law_folded.kp T.b__law_folded .nil pass0 (pa_cons pe_str (pa_cons (pe_ix ix_list (pv 6) pe_int (fun _ _ => rfl)) pa_nil))) pa_nil)))
  (pss_cons (ps_asg (pe_lst (pa_cons (pe_ix ix_list (pv 6) pe_int (fun _ _ => rfl)) (pa_cons (pe_lst pa_nil) pa_nil))) (pg_sub (pv 2) (pe_un un_neg pe_int) set_list))
  (pss_cons (ps_set (i := 3) sc__law_read_pattern.nd rfl (Or.inl rfl) pe_bl)
  (pss_one (ps_set (i := 1) sc__law_read_pattern.nd rfl (Or.inl rfl) (pe_op op_add (pv 1) pe_int))))))
  (pss_one (ps_if (pt_cmpR op_eq (pe_callB Gx.cr_lenQ (by rfl) T.z_len bt_len (pa_cons (pv 2) pa_nil)) pe_int (nomark _))
  (pss_one (ps_ret (pe_tup (pa_cons (pe_call G__law_folded (hr.mono (by first | decide | omega)) (by rfl) T.g__law_folded T.F__law_folded.kp T.b__law_folded .nil pass0 (pa_cons pe_str (pa_cons (pe_op op_cat (pe_ix ix_list (pv 6) pe_int (fun _ _ => rfl)) (pe_lst (pa_cons (pe_call G__law_folded (hr.mono (by first | decide | omega)) (by rfl) T.g__law_folded T.F__law_folded.kp T.b__law_folded .nil pass0 (pa_cons pe_str (pa_cons (pe_ix ix_list (pv 6) pe_int (fun _ _ => rfl)) pa_nil))) pa_nil))) pa_nil))) (pa_cons (pv 1) pa_nil)))))
  (pss_one (ps_if (pt_cmpR op_eq (pv 5) pe_str (nomark _))
  (pss_cons (ps_set (i := 7) sc__law_read_pattern.nd rfl (Or.inl rfl) (pe_call G__law_folded (hr.mono (by first | decide | omega)) (by rfl) T.g__law_folded T.F__law_folded.kp T.b__law_folded .nil pass0 (pa_cons pe_str (pa_cons (pe_op op_cat (pe_ix ix_list (pv 6) pe_int (fun _ _ => rfl)) (pe_lst (pa_cons (pe_call G__law_folded (hr.mono (by first | decide | omega)) (by rfl) T.g__law_folded T.F__law_folded.kp T.b__law_folded .nil pass0 (pa_cons pe_str (pa_cons (pe_ix ix_list (pv 6) pe_int (fun _ _ => rfl)) pa_nil))) pa_nil))) pa_nil))))
  (pss_cons (ps_expr (pe_bm0 PySem.F.plainAttrs_list PySem.F.slot_list_pop PySem.F.type_list_pop mt_pop (pv 2)))
  (pss_cons (ps_expr (pe_bm PySem.F.plainAttrs_list PySem.F.slot_list_append PySem.F.type_list_append mt_append (pe_ix ix_list (pe_ix ix_list (pv 2) (pe_un un_neg pe_int) (fun _ _ => rfl)) pe_int (fun _ _ => rfl)) (pa_cons (pv 7) pa_nil)))
  (pss_one (ps_set (i := 1) sc__law_read_pattern.nd rfl (Or.inl rfl) (pe_op op_add (pv 1) pe_int))))))
  (pss_one (ps_ret (pe_tup (pa_cons pe_non (pa_cons (pv 1) pa_nil))))))))))))))))))))))
  (pss_one (ps_ret (pe_tup (pa_cons pe_non (pa_cons (pe_callB Gx.cr_lenS (by rfl) T.z_len bt_len (pa_cons (pv 0) pa_nil)) pa_nil))))))))), ?_⟩
    clear G__law_folded G__law_read_item
    rw [st__law_read_pattern]
    try dsimp only [cxOf]
    walk_at "g"
    refine Gx.newL (by simp) (fun a0 H1 E1 => ?_)
    walk_at "g"
    refine Gx.newL (by simp) (fun b0 H2 E2 => ?_)
    walk_at "g"
    refine Gx.newL (by simp) (fun f0 H3 E3 => ?_)
    walk_at "g"
    refine Gx.newL (by simp) (fun F H4 E4 => ?_)
    have s04 : Same H H4 := E1.same.trans (E2.same.trans (E3.same.trans E4.same))
    have na0 := E1.fresh
    have nb0 := fresh_of E1.same E2.fresh
    have nf0 := fresh_of (E1.same.trans E2.same) E3.fresh
    have nF := fresh_of (E1.same.trans (E2.same.trans E3.same)) E4.fresh
    have ea : H4 a0 = some (.lst []) := E4.same _ _ (E3.same _ _ (E2.same _ _ E1.at_))
    have eb : H4 b0 = some (.lst []) := E4.same _ _ (E3.same _ _ E2.at_)
    have ef : H4 f0 = some (.lst [.ref a0, .ref b0]) := E4.same _ _ E3.at_
    have nab : a0 ≠ b0 := fun e => by have := E2.fresh; rw [← e, E1.at_] at this; cases this
    have nfa : f0 ≠ a0 := fun e => by have := E3.fresh; rw [e, E2.same _ _ E1.at_] at this; cases this
    have nfb : f0 ≠ b0 := fun e => by have := E3.fresh; rw [e, E2.at_] at this; cases this
    have nFa : F ≠ a0 := fun e => by have := E4.fresh; rw [e, E3.same _ _ (E2.same _ _ E1.at_)] at this; cases this
    have nFb : F ≠ b0 := fun e => by have := E4.fresh; rw [e, E3.same _ _ E2.at_] at this; cases this
    have nFf : F ≠ f0 := fun e => by have := E4.fresh; rw [e, E3.at_] at this; cases this
    have fr0 : Frames K H H4 F ([] ++ [⟨f0, a0, b0, [], [], ([], [])⟩]) := by
      refine ⟨E4.at_, fun x hx => ?_, ?_, fun p hp => ?_⟩
      · rw [List.mem_singleton.mp hx]
        exact ⟨ef, ea, eb, .nil, .nil⟩
      · simp [adr, nFf, nFa, nFb, nfa, nfb, nab]
      · simp only [adr, List.nil_append, List.flatMap_cons, List.flatMap_nil, List.append_nil, List.mem_cons, List.not_mem_nil, or_false] at hp
        rcases hp with rfl | rfl | rfl | rfl
        · exact nF
        · exact nf0
        · exact na0
        · exact nb0
    clear E1 E2 E3 E4 ea eb ef nab nfa nfb nFa nFb nFf na0 nb0 nf0 nF
    walk_at "g"
    refine ⟨_, rfl, by omega, by omega, for_range (fun i σ H' => ∃ (Lb : List FRm) (x : FRm) (wt : Bool) (a : Nat) (y1 y2 y3 y4 : Option V), LInv K l st H H' F Lb x wt a i ∧ σ = [some (.str (Gx.mkS l)), some (.int (a : Nat)), some (.ref F), some (.bl wt), y1, y2, y3, y4])
        ⟨[], ⟨f0, a0, b0, [], [], ([], [])⟩, true, st, none, none, none, none, ⟨fr0, s04, hst, by omega, rfl, fun h => (by cases h), fun y hy => by rw [List.mem_singleton.mp hy]; exact ⟨Nat.zero_le _, Nat.zero_le _⟩, Nat.zero_le _⟩, rfl⟩ ?_ ?_⟩
    · rintro i σ H' hi ⟨Lb, x, wt, a, y1, y2, y3, y4, I, rfl⟩
      obtain ⟨fr, sm, al, fu, run, ne, sz, ln⟩ := id I
      have sp := fr.split
      obtain ⟨f1, f2, f3, f4, f5⟩ := sp.f
      obtain ⟨lu, lv⟩ := FAt.lens sp.f
      obtain ⟨sz1, sz2⟩ := sz x (by simp)
      have hF := SqL.of (K := K) fr.top
      have hf1 := SqL.of (K := K) f1
      walk_at "g"
      rw [sl1]
      refine Gx.ixL hF (v := .ref x.fa) (by rw [List.map_append]; exact atI_last _ _) ?_
      walk_at "g"
      rcases Nat.lt_or_ge a l.length with ha | ha
      · have hd := drop_get ha
        generalize hr0 : l.drop (a + 1) = r at hd
        generalize hc0 : l.getD a 0 = c at hd
        obtain ⟨m, hm⟩ : ∃ m, l.length - i = m + 1 := ⟨l.length - i - 1, by omega⟩
        have hm2 : l.length - (i + 1) = m := by omega
        have hdx : l.drop a = c :: r := hd
        rw [hm, hd, lrun_cons] at run
        have dc : ∀ k, decide ([c] = [k]) = decide (c = k) := fun k => by simp
        have hrl : r.length = l.length - (a + 1) := by rw [← hr0, List.length_drop]
        clear hm
        rw [hdx, show ((c :: r).take 1) = [c] from rfl, dc 60]
        refine or2T (p2 := c = 91) (fun hn Q' hQ' => ?_) ?_
        · walk_at "g"
          rw [dc 91]
          exact hQ'
        by_cases h6 : c = 60 ∨ c = 91
        · rw [decide_eq_true h6]
          rw [if_pos h6] at run
          have hlf := leafOf_suf (c == 91) r
          walk_at "g"
          refine ⟨l, a, c, r, rfl, by rw [drop_get ha, hr0, hc0], h6, hl, ?_⟩
          cases hlo : leafOf (c == 91) r with
          | bad t =>
            rw [hlo] at run
            dsimp only at run
            rw [← run] at q
            intro H2 t2 s2 h2
            walk_at "g"
            refine ⟨t2, _, rfl, h2, rfl, ?_⟩
            walk_at "g"
            refine Gx.newT (by simp) (fun t3 H3 E3 => ?_)
            exact q H3 t3 .non (sm.trans (s2.trans E3.same)) (SqT.of E3.at_) rfl
          | ok p t =>
            rw [hlo] at run hlf
            dsimp only at run
            have hlf' : Suf t (l.drop (a + 1)) := by rw [hr0]; exact hlf
            obtain ⟨t1, t2, t3⟩ := suf_drop hlf'
            have hlen := Suf.len hlf'
            rw [List.length_drop] at hlen
            intro H2 tt v s2 h2 dv
            obtain ⟨tv, txs, rfl, _⟩ := pat_tag dv
            have fr2 := fr.same s2
            have sp2 := fr2.split
            obtain ⟨g1, g2, g3, g4, g5⟩ := sp2.f
            have hg1 := SqL.of (K := K) g1
            walk_at "g"
            refine ⟨tt, _, rfl, h2, rfl, ?_⟩
            walk_at "g"
            refine Gx.ixL hg1 (Gx.atI_of (k := 1) rfl rfl) ?_
            refine Gx.tyL g3 ?_
            walk_at "g"
            have dd : DpAll K H2 (x.v ++ [V.ref tv]) ((x.fr.2 ++ [p]).map patD) := by
              rw [List.map_append]
              exact Gx.dpAll_app g5 (.cons dv .nil)
            refine ⟨Lb, _, false, l.length - t.length, _, _, _, _, ⟨fr2.setb dd, Gx.Same.put (sm.trans s2) sp.fr.2.2.2, t2, by omega, by rw [hm2, t3]; exact run, fun _ => by simp, fun y hy => ?_, by omega⟩, rfl⟩
            rcases List.mem_append.mp hy with hy | hy
            · have := sz y (List.mem_append_left _ hy)
              omega
            · rw [List.mem_singleton.mp hy]
              dsimp only
              rw [List.length_append, List.length_singleton]
              omega
        · rw [decide_eq_false h6]
          rw [if_neg h6] at run
          walk_at "g"
          rw [dc 40]
          refine Gx.iteD (fun h40 => ?_) (fun h40 => ?_)
          · rw [if_pos h40] at run
            walk_at "g"
            refine Gx.tyL fr.top ?_
            walk_at "g"
            refine Gx.newL (by simp) (fun a1 H1 E1 => ?_)
            walk_at "g"
            refine Gx.newL (by simp) (fun b1 H2 E2 => ?_)
            walk_at "g"
            refine Gx.newL (by simp) (fun f1' H3 E3 => ?_)
            walk_at "g"
            have s3 := E1.same.trans (E2.same.trans E3.same)
            have top3 := s3 _ _ fr.top
            refine Gx.app top3 (Gx.lineL (by rw [List.length_map, List.length_append, List.length_singleton]; omega)) ?_
            walk_at "g"
            have ea : H3 a1 = some (.lst []) := E3.same _ _ (E2.same _ _ E1.at_)
            have eb : H3 b1 = some (.lst []) := E3.same _ _ E2.at_
            have nab : a1 ≠ b1 := fun e => by have := E2.fresh; rw [← e, E1.at_] at this; cases this
            have nfa : f1' ≠ a1 := fun e => by have := E3.fresh; rw [e, E2.same _ _ E1.at_] at this; cases this
            have nfb : f1' ≠ b1 := fun e => by have := E3.fresh; rw [e, E2.at_] at this; cases this
            have fr3 := fr.push s3 E1.fresh (fresh_of E1.same E2.fresh) (fresh_of (E1.same.trans E2.same) E3.fresh) ⟨nfa, nfb, nab⟩ ea eb E3.at_ sm
            refine ⟨Lb ++ [x], _, true, a + 1, _, _, _, _, ⟨fr3, Gx.Same.put (sm.trans s3) sp.fr.1, by omega, by omega, ?_, fun h => (by cases h), fun y hy => ?_, by rw [List.length_append, List.length_singleton]; omega⟩, rfl⟩
            · rw [hm2, hr0, List.map_append, List.reverse_append]
              exact run
            · rcases List.mem_append.mp hy with hy | hy
              · have := sz y hy
                omega
              · rw [List.mem_singleton.mp hy]
                exact ⟨Nat.zero_le _, Nat.zero_le _⟩
          · rw [if_neg h40] at run
            walk_at "g"
            refine Gx.iteB (fun hw => ?_) (fun hw => ?_)
            · rw [if_pos hw] at run
              rw [← run] at q
              walk_at "g"
              refine Gx.newT (by simp) (fun t3 H3 E3 => ?_)
              refine q H3 t3 .non (sm.trans E3.same) ?_ rfl
              rw [show l.length - (c :: r).length = a by rw [List.length_cons, hrl]; omega]
              exact SqT.of E3.at_
            · rw [if_neg (by rw [hw]; decide)] at run
              have hne := ne hw
              subst hw
              obtain ⟨qs, p0, hqs⟩ := snoc_of hne
              have stopQ : ∀ H3 t3, Same H' H3 → H3 t3 = some (.tup [.non, .int (a : Nat)]) → (none, c :: r) = lrun l.length [] ([], []) true (l.drop st) → Q (.ref t3) H3 := fun H3 t3 s3 e3 e => by
                rw [← e] at q
                refine q H3 t3 .non (sm.trans s3) ?_ rfl
                rw [show l.length - (c :: r).length = a by rw [List.length_cons, hrl]; omega]
                exact SqT.of e3
              have vne : x.v ≠ [] := fun z => by rw [z, hqs] at lv; simp at lv
              walk_at "g"
              rw [dc 42]
              refine Gx.iteD (fun h42 => ?_) (fun h42 => ?_)
              · rw [if_pos h42] at run
                walk_at "g"
                have f5' := f5
                rw [hqs, List.map_append] at f5'
                obtain ⟨vs', v0, ev, d5, dv0⟩ := dp_snoc f5'
                refine Gx.ixL hf1 (Gx.atI_of (k := 1) rfl rfl) ?_
                refine Gx.tyL f3 ?_
                walk_at "g"
                refine Gx.ixL hf1 (Gx.atI_of (k := 1) rfl rfl) ?_
                refine Gx.tyL f3 ⟨x.b, x.v, v0, rfl, rfl, f3, by rw [ev]; simp, ?_⟩
                have edl : x.v.dropLast = vs' := by rw [ev]; simp
                rw [edl]
                have fr1 := fr.setb (v' := vs') (qs := qs) d5
                have sm1 : Same H (upd H' x.b (.lst vs')) := Gx.Same.put sm sp.fr.2.2.2
                have dv1 := Gx.dp_tups (Gx.Tups.upd (ys := vs') f3) _ _ (noL_pat p0) dv0
                have f31 : upd H' x.b (.lst vs') x.b = some (.lst vs') := upd_same
                generalize upd H' x.b (.lst vs') = H1 at *
                walk_at "g"
                refine Gx.newT (by simp) (fun t2 H2 E2 => ?_)
                walk_at "g"
                have f32 := E2.same _ _ f31
                have lvs : vs'.length ≤ a := by
                  have := congrArg List.length ev
                  rw [List.length_append, List.length_singleton] at this
                  omega
                refine Gx.app f32 (Gx.lineL (by omega)) ?_
                walk_at "g"
                have fr2 := fr1.same E2.same
                have sp2 := fr2.split
                have dd : DpAll K H2 (vs' ++ [V.ref t2]) ((qs ++ [Pat.star p0]).map patD) := by
                  rw [List.map_append]
                  exact Gx.dpAll_app sp2.f.2.2.2.2 (.cons (.tup (SqT.of E2.at_) (.cons (.str _) (.cons (Gx.dp_same E2.same _ _ dv1) .nil))) .nil)
                refine ⟨Lb, _, false, a + 1, _, _, _, _, ⟨fr2.setb dd, Gx.Same.put (sm1.trans E2.same) sp.fr.2.2.2, by omega, by omega, ?_, fun _ => by simp, fun y hy => ?_, by omega⟩, rfl⟩
                · rw [hm2, hr0]
                  rw [hqs, starLast_snoc] at run
                  exact run
                · rcases List.mem_append.mp hy with hy | hy
                  · have := sz y (List.mem_append_left _ hy)
                    omega
                  · rw [List.mem_singleton.mp hy]
                    dsimp only
                    rw [hqs, List.length_append, List.length_singleton] at sz2
                    rw [List.length_append, List.length_singleton]
                    omega
              · rw [if_neg h42] at run
                walk_at "g"
                rw [dc 124]
                have hq2 : 0 < x.fr.2.length := List.length_pos_iff.mpr hne
                refine Gx.iteD (fun h124 => ?_) (fun h124 => ?_)
                · rw [if_pos h124] at run
                  walk_at "g"
                  refine Gx.ixL hf1 (Gx.atI_of (k := 0) rfl rfl) ?_
                  refine Gx.tyL f2 ?_
                  walk_at "g"
                  refine Gx.ixL hf1 (Gx.atI_of (k := 1) rfl rfl) ?_
                  walk_at "g"
                  refine ⟨x.b, true, x.v, x.fr.2, rfl, SqL.of f3, f5, hq2, by omega, fun H1 v1 s1 dv1 => ?_⟩
                  walk_at "g"
                  have fr1 := fr.same s1
                  have sp1 := fr1.split
                  refine Gx.app sp1.f.2.1 (Gx.lineL (by omega)) ?_
                  have eN : (upd H1 x.a (.lst (x.u ++ [v1]))) x.fa = some (.lst [.ref x.a, .ref x.b]) := by rw [upd_ne sp.n2.1]; exact sp1.f.1
                  obtain ⟨HN, hHN⟩ : ∃ HN, HN = upd H1 x.a (.lst (x.u ++ [v1])) := ⟨_, rfl⟩
                  rw [← hHN] at eN ⊢
                  have hfN := SqL.of (K := K) eN
                  walk_at "g"
                  refine Gx.ixL hfN (Gx.atI_of (k := 0) rfl rfl) ?_
                  walk_at "g"
                  refine Gx.newL (by simp) (fun b1 H2 E2 => ?_)
                  walk_at "g"
                  refine Gx.newL (by simp) (fun fa1 H3 E3 => ?_)
                  walk_at "g"
                  have nfb : fa1 ≠ b1 := fun e => by have := E3.fresh; rw [e, E2.at_] at this; cases this
                  have sN := E2.same.trans E3.same
                  have topN : HN F = some (.lst ((Lb ++ [x]).map fun x => V.ref x.fa)) := by rw [hHN, upd_ne (Ne.symm sp.n1.2.1)]; exact fr1.top
                  have frN := fr1.next dv1 hHN sN E2.fresh (fresh_of E2.same E3.fresh) nfb (E3.same _ _ E2.at_) E3.at_ (sm.trans s1)
                  have smN : Same H HN := by rw [hHN]; exact Gx.Same.put (sm.trans s1) sp.fr.2.2.1
                  refine ⟨F, _, -1, Lb.length, rfl, rfl, sN _ _ topN, ?_, ?_⟩
                  · rw [List.length_map, List.length_append, List.length_singleton]
                    unfold ixN
                    rw [if_neg (by decide), if_pos (by omega)]
                    congr 1
                    omega
                  walk_at "g"
                  refine ⟨Lb, _, true, a + 1, _, _, _, _, ⟨frN, Gx.Same.put (smN.trans sN) sp.fr.1, by omega, by omega, by rw [hm2, hr0]; exact run, fun h => (by cases h), fun y hy => ?_, by omega⟩, rfl⟩
                  rcases List.mem_append.mp hy with hy | hy
                  · have := sz y (List.mem_append_left _ hy)
                    omega
                  · rw [List.mem_singleton.mp hy]
                    dsimp only
                    rw [List.length_append, List.length_singleton]
                    exact ⟨by omega, Nat.zero_le _⟩
                · rw [if_neg h124] at run
                  walk_at "g"
                  by_cases hpos : Lb = []
                  · subst hpos
                    rw [decide_eq_true (show (((([] ++ [x] : List FRm).length : Nat) : Int)) = 1 by simp)]
                    have run : (some x.fr.all, c :: r) = lrun l.length [] ([], []) true (l.drop st) := run
                    rw [← run] at q
                    walk_at "g"
                    refine Gx.ixL hf1 (Gx.atI_of (k := 0) rfl rfl) ?_
                    walk_at "g"
                    refine Gx.ixL hf1 (Gx.atI_of (k := 1) rfl rfl) ?_
                    walk_at "g"
                    refine ⟨x.b, true, x.v, x.fr.2, rfl, SqL.of f3, f5, hq2, by omega, fun H1 v1 s1 dv1 => ?_⟩
                    walk_at "g"
                    refine Gx.newL (by simp) (fun n1 H2 E2 => ?_)
                    walk_at "g"
                    refine Gx.cat1 (E2.same _ _ (s1 _ _ f2)) E2.at_ (by rw [List.length_singleton]; omega) (fun n2 H3 E3 => ?_)
                    walk_at "g"
                    have s3 := s1.trans (E2.same.trans E3.same)
                    have dpa : DpAll K H3 (x.u ++ [v1]) ((x.fr.1 ++ [fold true x.fr.2]).map patD) := by
                      rw [List.map_append]
                      exact Gx.dpAll_app (Gx.dpAll_same s3 _ _ f4) (.cons (Gx.dp_same (E2.same.trans E3.same) _ _ dv1) .nil)
                    refine ⟨n2, false, _, _, rfl, SqL.of E3.at_, dpa, by simp, by rw [List.length_append, List.length_singleton]; omega, fun H4 v4 s4 dv4 => ?_⟩
                    walk_at "g"
                    refine Gx.newT (by simp) (fun t5 H5 E5 => ?_)
                    refine q H5 t5 v4 (sm.trans (s3.trans (s4.trans E5.same))) ?_ (Gx.dp_same E5.same _ _ dv4)
                    rw [show l.length - (c :: r).length = a by rw [List.length_cons, hrl]; omega]
                    exact SqT.of E5.at_
                  obtain ⟨Lb', y, rfl⟩ := snoc_of hpos
                  rw [decide_eq_false (show ¬ ((((Lb' ++ [y]) ++ [x]).length : Nat) : Int) = 1 by simp only [List.length_append, List.length_singleton]; omega)]
                  rw [List.map_append, List.map_cons, List.map_nil, List.reverse_append, List.reverse_singleton, List.singleton_append] at run
                  dsimp only at run
                  walk_at "g"
                  rw [dc 41]
                  refine Gx.iteD (fun h41 => ?_) (fun h41 => ?_)
                  · rw [if_pos h41] at run
                    walk_at "g"
                    refine Gx.ixL hf1 (Gx.atI_of (k := 0) rfl rfl) ?_
                    walk_at "g"
                    refine Gx.ixL hf1 (Gx.atI_of (k := 1) rfl rfl) ?_
                    walk_at "g"
                    refine ⟨x.b, true, x.v, x.fr.2, rfl, SqL.of f3, f5, hq2, by omega, fun H1 v1 s1 dv1 => ?_⟩
                    walk_at "g"
                    refine Gx.newL (by simp) (fun n1 H2 E2 => ?_)
                    walk_at "g"
                    refine Gx.cat1 (E2.same _ _ (s1 _ _ f2)) E2.at_ (by rw [List.length_singleton]; omega) (fun n2 H3 E3 => ?_)
                    walk_at "g"
                    have s3 := s1.trans (E2.same.trans E3.same)
                    have dpa : DpAll K H3 (x.u ++ [v1]) ((x.fr.1 ++ [fold true x.fr.2]).map patD) := by
                      rw [List.map_append]
                      exact Gx.dpAll_app (Gx.dpAll_same s3 _ _ f4) (.cons (Gx.dp_same (E2.same.trans E3.same) _ _ dv1) .nil)
                    refine ⟨n2, false, _, _, rfl, SqL.of E3.at_, dpa, by simp, by rw [List.length_append, List.length_singleton]; omega, fun H4 v4 s4 dv4 => ?_⟩
                    have s04' := s3.trans s4
                    have fr4 := fr.same s04'
                    walk_at "g"
                    refine Gx.tyL fr4.top ⟨F, _, V.ref x.fa, rfl, rfl, fr4.top, by simp, ?_⟩
                    have edl : ((Lb' ++ [y] ++ [x]).map fun x => V.ref x.fa).dropLast = (Lb' ++ [y]).map fun x => V.ref x.fa := by rw [List.map_append, List.map_cons, List.map_nil, List.dropLast_concat]
                    rw [edl]
                    have fr5 := fr4.pop
                    have sm5 : Same H (upd H4 F (.lst ((Lb' ++ [y]).map fun x => V.ref x.fa))) := Gx.Same.put (sm.trans s04') sp.fr.1
                    have dv5 := Gx.dp_tups (Gx.Tups.upd (ys := (Lb' ++ [y]).map fun x => V.ref x.fa) fr4.top) _ _ (noL_pat _) dv4
                    generalize upd H4 F (.lst ((Lb' ++ [y]).map fun x => V.ref x.fa)) = H5 at *
                    have sp5 := fr5.split
                    obtain ⟨g1, g2, g3, g4, g5⟩ := sp5.f
                    have szy := sz y (by simp)
                    obtain ⟨_, lyv⟩ := FAt.lens sp5.f
                    walk_at "g"
                    refine Gx.ixL (SqL.of fr5.top) (v := .ref y.fa) (by rw [List.map_append]; exact atI_last _ _) ?_
                    walk_at "g"
                    refine Gx.ixL (SqL.of g1) (Gx.atI_of (k := 1) rfl rfl) ?_
                    refine Gx.tyL g3 ?_
                    walk_at "g"
                    have dd : DpAll K H5 (y.v ++ [v4]) ((y.fr.2 ++ [x.fr.all]).map patD) := by
                      rw [List.map_append]
                      exact Gx.dpAll_app g5 (.cons dv5 .nil)
                    refine ⟨Lb', _, false, a + 1, _, _, _, _, ⟨fr5.setb dd, Gx.Same.put sm5 sp5.fr.2.2.2, by omega, by omega, ?_, fun _ => by simp, fun z hz => ?_, ?_⟩, rfl⟩
                    · rw [hm2, hr0]
                      exact run
                    · rcases List.mem_append.mp hz with hz | hz
                      · have := sz z (by simp [hz])
                        omega
                      · rw [List.mem_singleton.mp hz]
                        dsimp only
                        rw [List.length_append, List.length_singleton]
                        omega
                    · rw [List.length_append, List.length_singleton] at ln
                      omega
                  · rw [if_neg h41] at run
                    walk_at "g"
                    refine Gx.newT (by simp) (fun t3 H3 E3 => ?_)
                    exact stopQ H3 t3 E3.same E3.at_ run
      · have hdn : l.drop a = [] := List.drop_eq_nil_of_le ha
        rw [hdn, lrun_nil] at run
        rw [hdn]
        rw [show (([] : List Nat).take 1) = [] from rfl]
        rw [decide_eq_false (by decide : ¬ ([] : List Nat) = [60])]
        walk_at "g"
        rw [decide_eq_false (by decide : ¬ ([] : List Nat) = [91])]
        walk_at "g"
        rw [decide_eq_false (by decide : ¬ ([] : List Nat) = [40])]
        walk_at "g"
        refine Gx.iteB (fun hw => ?_) (fun hw => ?_)
        · rw [hw, Bool.true_or, if_pos rfl] at run
          rw [← run] at q
          walk_at "g"
          refine Gx.newT (by simp) (fun t3 H3 E3 => ?_)
          refine q H3 t3 .non (sm.trans E3.same) ?_ rfl
          rw [show l.length - ([] : List Nat).length = a by rw [List.length_nil]; omega]
          exact SqT.of E3.at_
        · have hne := ne hw
          have hq2 : 0 < x.fr.2.length := List.length_pos_iff.mpr hne
          walk_at "g"
          rw [decide_eq_false (by decide : ¬ ([] : List Nat) = [42])]
          walk_at "g"
          rw [decide_eq_false (by decide : ¬ ([] : List Nat) = [124])]
          walk_at "g"
          by_cases hpos : Lb = []
          · subst hpos
            rw [hw, if_neg (by simp)] at run
            rw [decide_eq_true (show (((([] ++ [x] : List FRm).length : Nat) : Int)) = 1 by simp)]
            rw [← run] at q
            walk_at "g"
            refine Gx.ixL hf1 (Gx.atI_of (k := 0) rfl rfl) ?_
            walk_at "g"
            refine Gx.ixL hf1 (Gx.atI_of (k := 1) rfl rfl) ?_
            walk_at "g"
            refine ⟨x.b, true, x.v, x.fr.2, rfl, SqL.of f3, f5, hq2, by omega, fun H1 v1 s1 dv1 => ?_⟩
            walk_at "g"
            refine Gx.newL (by simp) (fun n1 H2 E2 => ?_)
            walk_at "g"
            refine Gx.cat1 (E2.same _ _ (s1 _ _ f2)) E2.at_ (by rw [List.length_singleton]; omega) (fun n2 H3 E3 => ?_)
            walk_at "g"
            have s3 := s1.trans (E2.same.trans E3.same)
            have dpa : DpAll K H3 (x.u ++ [v1]) ((x.fr.1 ++ [fold true x.fr.2]).map patD) := by
              rw [List.map_append]
              exact Gx.dpAll_app (Gx.dpAll_same s3 _ _ f4) (.cons (Gx.dp_same (E2.same.trans E3.same) _ _ dv1) .nil)
            refine ⟨n2, false, _, _, rfl, SqL.of E3.at_, dpa, by simp, by rw [List.length_append, List.length_singleton]; omega, fun H4 v4 s4 dv4 => ?_⟩
            walk_at "g"
            refine Gx.newT (by simp) (fun t5 H5 E5 => ?_)
            refine q H5 t5 v4 (sm.trans (s3.trans (s4.trans E5.same))) ?_ (Gx.dp_same E5.same _ _ dv4)
            rw [show l.length - ([] : List Nat).length = a by rw [List.length_nil]; omega]
            exact SqT.of E5.at_
          · obtain ⟨Lb', y, rfl⟩ := snoc_of hpos
            rw [decide_eq_false (show ¬ ((((Lb' ++ [y]) ++ [x]).length : Nat) : Int) = 1 by simp only [List.length_append, List.length_singleton]; omega)]
            rw [if_pos (by simp)] at run
            rw [← run] at q
            walk_at "g"
            rw [decide_eq_false (by decide : ¬ ([] : List Nat) = [41])]
            walk_at "g"
            refine Gx.newT (by simp) (fun t3 H3 E3 => ?_)
            refine q H3 t3 .non (sm.trans E3.same) ?_ rfl
            rw [show l.length - ([] : List Nat).length = a by rw [List.length_nil]; omega]
            exact SqT.of E3.at_
    · rintro σ H' ⟨Lb, x, wt, a, y1, y2, y3, y4, I, rfl⟩
      have h0 := I.go
      have h1 := I.al
      rw [show ((l.length : Int) + 1).toNat = l.length + 1 by omega] at h0
      omega
end
end K13
namespace K13
open PySem PySem.Spec PyProof.Rows L2
local macro_rules | `(tactic| walk_at "con") => `(tactic| first | with_reducible refine Gx.conE K13.ks0 ?_ | with_reducible refine Gx.conE K13.ks1 ?_ | with_reducible refine Gx.conE K13.ks2 ?_ | with_reducible refine Gx.conE K13.ks3 ?_ | with_reducible refine Gx.conE K13.ks4 ?_ | with_reducible refine Gx.conE K13.ks5 ?_ | with_reducible refine Gx.conE K13.ks6 ?_ | with_reducible refine Gx.conE K13.ks7 ?_ | with_reducible refine Gx.conE K13.ks8 ?_ | with_reducible refine Gx.conE K13.ks9 ?_ | with_reducible refine Gx.conE K13.ks10 ?_ | with_reducible refine Gx.conE K13.ks11 ?_ | with_reducible refine Gx.conE K13.ks12 ?_ | with_reducible refine Gx.conE K13.ks13 ?_ | with_reducible refine Gx.conE K13.ks14 ?_ | with_reducible refine Gx.conE K13.ks15 ?_ | with_reducible refine Gx.conE K13.ks16 ?_ | with_reducible refine Gx.conE K13.ks17 ?_ | with_reducible refine Gx.conE K13.ks18 ?_ | with_reducible refine Gx.conE K13.ks19 ?_ | with_reducible refine Gx.conE K13.ks20 ?_ | with_reducible refine Gx.conE K13.ks21 ?_ | with_reducible refine Gx.conE K13.ks22 ?_ | with_reducible refine Gx.conE K13.ks23 ?_ | with_reducible refine Gx.conE K13.ks24 ?_ | with_reducible refine Gx.conE K13.ks25 ?_ | with_reducible refine Gx.conE K13.ks26 ?_ | with_reducible refine Gx.conE K13.ks27 ?_ | with_reducible refine Gx.conE K13.ks28 ?_ | with_reducible refine Gx.conE K13.ks29 ?_ | with_reducible refine Gx.conE K13.ks30 ?_ | with_reducible refine Gx.conE K13.ks31 ?_ | with_reducible refine Gx.conE K13.ks32 ?_ | with_reducible refine Gx.conE K13.ks33 ?_ | with_reducible refine Gx.conE K13.ks34 ?_ | with_reducible refine Gx.conE K13.ks35 ?_ | with_reducible refine Gx.conE K13.ks36 ?_ | with_reducible refine Gx.conE K13.ks37 ?_ | with_reducible refine Gx.conE K13.ks38 ?_ | with_reducible refine Gx.conE K13.ks39 ?_ | with_reducible refine Gx.conE K13.ks40 ?_ | with_reducible refine Gx.conE K13.ks41 ?_ | with_reducible refine Gx.conE K13.ks42 ?_ | with_reducible refine Gx.conE K13.ks43 ?_ | with_reducible refine Gx.conE K13.ks44 ?_ | with_reducible refine Gx.conE K13.ks45 ?_ | with_reducible refine Gx.conE K13.ks46 ?_ | with_reducible refine Gx.conE K13.ks47 ?_ | with_reducible refine Gx.conE K13.ks48 ?_ | with_reducible refine Gx.conE K13.ks49 ?_ | with_reducible refine Gx.conE K13.ks50 ?_ | with_reducible refine Gx.conE K13.ks51 ?_ | with_reducible refine Gx.conE K13.ks52 ?_ | with_reducible refine Gx.conE K13.ks53 ?_ | with_reducible refine Gx.conE K13.ks54 ?_ | with_reducible refine Gx.conE K13.ks55 ?_ | with_reducible refine Gx.conE K13.ks56 ?_ | with_reducible refine Gx.conE K13.ks57 ?_ | with_reducible refine Gx.conE K13.ks58 ?_ | with_reducible refine Gx.conE K13.ks59 ?_ | with_reducible refine Gx.conE K13.ks60 ?_ | with_reducible refine Gx.conE K13.ks61 ?_ | with_reducible refine Gx.conE K13.ks62 ?_ | with_reducible refine Gx.conE K13.ks63 ?_)
section
variable {P : Program} {w : World} {K : PySem.W.Frag} {mg : Str → Option Value} {base : Heap}
/-- what a reader of the law tells -/
def LRd (K : PySem.W.Frag) (l : List Nat) {α : Type} (d : α → PyData) (x : Rs α) (H : Hp) (Q : VK) : Prop := match x with
  | .ok p r => ∀ H' t v, Same H H' → SqT K H' t [v, .int ((l.length - r.length : Nat) : Nat)] → Dp K H' v (d p) → Q (.ref t) H'
  | .bad r => ∀ H' t, Same H H' → SqT K H' t [.non, .int ((l.length - r.length : Nat) : Nat)] → Q (.ref t) H'
def Ln.ofL (p : Pat) : List (List Nat) → Ln
  | [] => .copy p
  | [a] => .swap p a
  | a :: b :: _ => .hide p a b
def txtR (sw : Bool) (u : List Nat) : Rs (List Nat) := if sw = true then ren u else .ok (spanS u).1 (spanS u).2
def leafK (sw : Bool) (p : Pat) : Nat → List (List Nat) → List Nat → Rs Ln
  | 0, ws, r => fin 125 (Ln.ofL p ws) r
  | n + 1, ws, r => (fin 44 () r).bind fun _ u => (txtR sw u).bind fun w v => leafK sw p n (ws ++ [w]) v
def arity (sh : List Nat) : Nat := if sh = copyS then 0 else if sh = swapS then 1 else 2
theorem leafR_K {sh : List Nat} (h : sh = copyS ∨ sh = swapS ∨ sh = hideS) (I : List Nat → Rs Pat) (s : List Nat) : leafR sh I s = (I s).bind fun p t => leafK (sh == swapS) p (arity sh) [] t := by
  rcases h with rfl | rfl | rfl
  · rfl
  · show swapR I s = _
    unfold swapR
    congr 1
  · show hideR I s = _
    unfold hideR
    congr 1
theorem ofL_data {sh : List Nat} (h : sh = copyS ∨ sh = swapS ∨ sh = hideS) (p : Pat) {ws : List (List Nat)} (hw : ws.length = arity sh) : lnD (Ln.ofL p ws) = .tuple (.str (Gx.mkS sh) :: patD p :: ws.map fun x => .str (Gx.mkS x)) := by
  rcases h with rfl | rfl | rfl
  · match ws, hw with
    | [], _ => rfl
  · match ws, hw with
    | [a], _ => rfl
  · match ws, hw with
    | [a, b], _ => rfl
/-- where a sign stands that stands there before -/
theorem spanD_le : ∀ (s x : List Nat), (spanD x s).1.length ≤ (spanS s).1.length
  | [], x => by simp [spanD]
  | c :: r, x => by
    rw [spanD]
    split
    · rename_i h
      have := spanD_le r (x ++ [c])
      rw [spanS, if_pos h.1]
      simpa using this
    · exact Nat.zero_le _
theorem spanD_not : ∀ (s x : List Nat) (j : Nat), j < (spanD x s).1.length → s.getD j 0 ∉ x ++ s.take j
  | [], x, j, h => by simp [spanD] at h
  | c :: r, x, j, h => by
    rw [spanD] at h
    split at h
    · rename_i g
      cases j with
      | zero => simpa using g.2
      | succ j =>
        have := spanD_not r (x ++ [c]) j (by simpa using h)
        simpa using this
    · simp at h
theorem spanD_at : ∀ (s x : List Nat), (spanD x s).1.length < (spanS s).1.length → s.getD (spanD x s).1.length 0 ∈ x ++ s.take (spanD x s).1.length
  | [], x, h => by simp [spanS] at h
  | c :: r, x, h => by
    rw [spanD] at h ⊢
    split
    · rename_i g
      rw [if_pos g, spanS, if_pos g.1] at h
      have := spanD_at r (x ++ [c]) (by simpa using h)
      simpa using this
    · rename_i g
      rw [if_neg g] at h
      simp only [List.length_nil, List.take_zero, List.append_nil]
      show c ∈ x
      by_cases hc : c ∈ sgs
      · exact Classical.byContradiction fun z => g ⟨hc, z⟩
      · rw [spanS, if_neg hc] at h
        simp at h
theorem take1_iff {c : Nat} {x : List Nat} : x.take 1 = [c] ↔ ∃ u, x = c :: u := by
  cases x with
  | nil => simp
  | cons d u => simp
def shD : List (Key × V) := [(.inr (Gx.mkS copyS), .int 0), (.inr (Gx.mkS swapS), .int 1), (.inr (Gx.mkS hideS), .int 2)]
theorem dispSh {σ : L2.St} {H : Hp} {Q : VK} (h : ∀ p H1, Same H H1 → H1 p = some (.dK shD) → Q (.ref p) H1) : tDisp [(tC (.str (Gx.mkS copyS)), tC (.int 0)), (tC (.str (Gx.mkS swapS)), tC (.int 1)), (tC (.str (Gx.mkS hideS)), tC (.int 2))] σ H Q := fun p np => by
  refine ⟨upd_same, shD, rfl, by decide, ?_⟩
  have e : mergeK [] shD = shD := by decide +kernel
  rw [e]
  refine h p _ (fun b o hb => ?_) upd_same
  have nb : b ≠ p := fun z => by rw [z, np] at hb; cases hb
  rw [upd_ne nb, upd_ne nb]
  exact hb
theorem shGet {H : Hp} {a : Addr} {sh : List Nat} (hsh : sh = copyS ∨ sh = swapS ∨ sh = hideS) (e : H a = some (.dK shD)) : DGet H a (.str (Gx.mkS sh)) (some (.int (arity sh : Nat))) := by
  have h := DGet.k (k := .inr (Gx.mkS sh)) e
  have e2 : valV shD (.inr (Gx.mkS sh)) = some (.int (arity sh : Nat)) := by
    rcases hsh with rfl | rfl | rfl <;> decide +kernel
  rw [e2] at h
  exact h
/-- the places of signs that stand there before -/
def dbl (u : List Nat) (st n : Nat) : List Int := ((List.range n).filter fun j => decide (u.getD j 0 ∈ u.take j)).map fun j => ((st + j : Nat) : Int)
theorem dbl_succ (u : List Nat) (st n : Nat) : dbl u st (n + 1) = dbl u st n ++ (if decide (u.getD n 0 ∈ u.take n) = true then [((st + n : Nat) : Int)] else []) := by
  unfold dbl
  rw [List.range_succ, List.filter_append, List.map_append]
  congr 1
  by_cases h : u.getD n 0 ∈ u.take n
  · rw [if_pos (decide_eq_true h), List.filter_cons_of_pos (p := fun j => decide (u.getD j 0 ∈ u.take j)) (decide_eq_true h)]
    rfl
  · rw [if_neg (by rw [decide_eq_false h]; decide), List.filter_cons_of_neg (p := fun j => decide (u.getD j 0 ∈ u.take j)) (by rw [decide_eq_false h]; decide)]
    rfl
theorem dbl_len (u : List Nat) (st n : Nat) : (dbl u st n).length ≤ n := by
  unfold dbl
  rw [List.length_map]
  exact Nat.le_trans (List.length_filter_le _ _) (by rw [List.length_range]; omega)
theorem dbl_mem {u : List Nat} {st n : Nat} {y : Int} (h : y ∈ dbl u st n) : ∃ j, j < n ∧ u.getD j 0 ∈ u.take j ∧ y = ((st + j : Nat) : Int) := by
  unfold dbl at h
  rw [List.mem_map] at h
  obtain ⟨j, hj, rfl⟩ := h
  rw [List.mem_filter, List.mem_range] at hj
  exact ⟨j, hj.1, by simpa using hj.2, rfl⟩
theorem dbl_min {u : List Nat} {st : Nat} {m : Int} (hm : m ∈ dbl u st (spanS u).1.length ++ [((st + (spanS u).1.length : Nat) : Int)]) (hle : ∀ y ∈ dbl u st (spanS u).1.length ++ [((st + (spanS u).1.length : Nat) : Int)], m ≤ y) : m = ((st + (spanD [] u).1.length : Nat) : Int) := by
  have h1 := spanD_le u []
  have h2 : m ≤ ((st + (spanD [] u).1.length : Nat) : Int) := by
    by_cases hlt : (spanD [] u).1.length < (spanS u).1.length
    · refine hle _ (List.mem_append_left _ ?_)
      unfold dbl
      refine List.mem_map.mpr ⟨_, List.mem_filter.mpr ⟨List.mem_range.mpr hlt, ?_⟩, rfl⟩
      have := spanD_at u [] hlt
      simpa using this
    · have e : (spanD [] u).1.length = (spanS u).1.length := by omega
      rw [e]
      exact hle _ (List.mem_append_right _ (List.mem_singleton.mpr rfl))
  rcases List.mem_append.mp hm with h | h
  · obtain ⟨j, hj, hu, rfl⟩ := dbl_mem h
    have h3 : ¬ j < (spanD [] u).1.length := fun z => by
      have := spanD_not u [] j z
      rw [List.nil_append] at this
      exact this hu
    have : (st + j : Nat) ≤ st + (spanD [] u).1.length := by exact_mod_cast h2
    congr 1
    omega
  · rw [List.mem_singleton] at h
    subst h
    have : (st + (spanS u).1.length : Nat) ≤ st + (spanD [] u).1.length := by exact_mod_cast h2
    congr 1
    omega
def sp_lrleaf (K : PySem.W.Frag) : Sp := fun vs H Q _ => ∃ (l : List Nat) (at_ N : Nat) (sh : List Nat), vs = [.str (Gx.mkS sh), .str (Gx.mkS l), .int (at_ : Nat)] ∧ at_ ≤ l.length ∧ l.length ≤ 100000 ∧ dep (l.drop at_) + 1 ≤ N ∧ (sh = copyS ∨ sh = swapS ∨ sh = hideS) ∧ LRd K l lnD (leafR sh (inn N) (l.drop at_)) H Q
set_option maxHeartbeats 8000000 in
theorem G__law_read_leaf (T : Txt K mg w) : FnOk P w K mg base CX0 4 T.f__law_read_leaf T.fd__law_read_leaf ["shape", "text", "at"] (sp_lrleaf K) := by
  have G__law_read_pattern := G__law_read_pattern (P := P) (w := w) (base := base) T
  have G__law_end := G__law_end (P := P) (w := w) (base := base) T
  refine T.F__law_read_leaf.ok sc__law_read_leaf (fun vs H Q E h => ?_) (fun cdv A outer s H vs Q E hr h => ?_)
  · obtain ⟨l, at_, N, sh, rfl, _⟩ := h
    rfl
  · obtain ⟨l, at_, N, sh, rfl, ha, hl, hdp, hsh, q⟩ := h
    refine ⟨_, ((pss_cons (ps_asg (pe_call G__law_read_pattern (hr.mono (by first | decide | omega)) (by rfl) T.g__law_read_pattern T.F__law_read_pattern.kp T.b__law_read_pattern .nil pass0 (pa_cons (pv 1) (pa_cons (pv 2) pa_nil))) (pg_tup rfl (pgs_cons (pg_name (i := 3) sc__law_read_leaf.nd rfl (Or.inl rfl)) (pgs_cons (pg_name (i := 2) sc__law_read_leaf.nd rfl (Or.inl rfl)) pgs_nil))))
  (pss_cons (ps_if (pt_cmpR Gx.op_isNG (pv 3) pe_non (nomark _))
  (pss_one (ps_ret (pe_tup (pa_cons pe_non (pa_cons (pv 2) pa_nil)))))
  pss_nil)
  (pss_cons (ps_set (i := 4) sc__law_read_leaf.nd rfl (Or.inl rfl) (pe_tup (pa_cons (pv 0) (pa_cons (pv 3) pa_nil))))
  (pss_cons (ps_for PassesOwn.never rfl (pi_range1 rfl T.z_range (pa_cons (pe_dget (Gx.hu1 hr.units) (pe_disp (pps_cons pe_str pe_int (pps_cons pe_str pe_int (pps_cons pe_str pe_int pps_nil))) rfl rfl (by decide) (by decide)) (pv 0) (fun _ _ => rfl)) pa_nil)) (pg_name (i := 5) sc__law_read_leaf.nd rfl (Or.inl rfl))
  (pss_cons (ps_if (pt_cmpR op_ne (pe_slice sl_str (pv 1) (po_some (pv 2)) (po_some (pe_op op_add (pv 2) pe_int))) pe_str (nomark _))
  (pss_one (ps_ret (pe_tup (pa_cons pe_non (pa_cons (pv 2) pa_nil)))))
  pss_nil)
  (pss_cons (ps_set (i := 6) sc__law_read_leaf.nd rfl (Or.inr rfl) (pe_op op_add (pv 2) pe_int))
  (pss_cons (ps_set (i := 2) sc__law_read_leaf.nd rfl (Or.inl rfl) (pe_call G__law_end (hr.mono (by first | decide | omega)) (by rfl) T.g__law_end T.F__law_end.kp T.b__law_end .nil pass0 (pa_cons (pv 1) (pa_cons (pv 6) (pa_cons pe_bl pa_nil)))))
  (C8.pss_cut (ps_if (pt_cmpR op_eq (pv 0) pe_str (nomark _))
  (pss_cons (ps_setLc (i := 7) (own := [("end", 8)]) (g := (gName 8))  rfl sc__law_read_leaf.nd rfl rfl (sw_true rfl rfl rfl (by decide +kernel)) (pi_range2 rfl T.z_range (pa_cons (pv 6) (pa_cons (pv 2) pa_nil))) (blkOk_by (N := ["shape", "text", "at", "pattern", "tree", "k", "start", "doubled", "end"]) (sc := defScope s__law_read_leaf) (by decide +kernel)) (fun _ _ _ _ _ => (pg_name (i := 8) sc__law_read_leaf.nd rfl (Or.inl rfl))) (fun _ _ _ _ _ => (pts_one (pt_cmpR Gx.op_inSg (pe_ix ix_str (pv 1) (pv 8) (fun _ _ => rfl)) (pe_slice sl_str (pv 1) (po_some (pv 6)) (po_some (pv 8))) rfl))) (fun _ _ _ _ _ => (pv 8)))
  (pss_cons (ps_set (i := 2) sc__law_read_leaf.nd rfl (Or.inl rfl) (pe_callB (cr_min rfl) (by rfl) T.z_min bt_min (pa_cons (pe_op op_cat (pv 7) (pe_lst (pa_cons (pv 2) pa_nil))) pa_nil)))
  (pss_one (ps_if (pt_cmpR op_lt (pv 2) (pe_op op_add (pv 6) pe_int) (nomark _))
  (pss_one (ps_ret (pe_tup (pa_cons pe_non (pa_cons (pv 2) pa_nil)))))
  pss_nil))))
  pss_nil)
  (pss_one (ps_set (i := 4) sc__law_read_leaf.nd rfl (Or.inl rfl) (pe_op op_catA (pv 4) (pe_tup (pa_cons (pe_slice sl_str (pv 1) (po_some (pv 6)) (po_some (pv 2))) pa_nil))))))))))
  (pss_cons (ps_if (pt_cmpR op_ne (pe_slice sl_str (pv 1) (po_some (pv 2)) (po_some (pe_op op_add (pv 2) pe_int))) pe_str (nomark _))
  (pss_one (ps_ret (pe_tup (pa_cons pe_non (pa_cons (pv 2) pa_nil)))))
  pss_nil)
  (pss_one (ps_ret (pe_tup (pa_cons (pv 4) (pa_cons (pe_op op_add (pv 2) pe_int) pa_nil))))))))))), ?_⟩
    clear G__law_read_pattern G__law_end
    rw [st__law_read_leaf]
    try dsimp only [cxOf]
    rw [leafR_K hsh] at q
    walk_at "g"
    refine ⟨l, at_, rfl, ha, hl, ?_⟩
    have hsf := inn_suf N (l.drop at_)
    have hsim := sim_top (m := l.length) hdp (by rw [List.length_drop]; omega)
    cases hin : inn N (l.drop at_) with
    | bad r =>
      rw [hin] at hsim q
      dsimp only at hsim
      rw [hsim]
      intro H1 t v s1 ht hv
      dsimp only at hv
      subst hv
      walk_at "g"
      refine ⟨t, _, rfl, ht, rfl, ?_⟩
      walk_at "g"
      refine Gx.newT (by simp) (fun t3 H3 E3 => ?_)
      exact q H3 t3 (s1.trans E3.same) (SqT.of E3.at_)
    | ok p r =>
      rw [hin] at hsf hsim q
      dsimp only at hsim
      rw [hsim]
      rw [bind_E] at q
      obtain ⟨t1, t2, t3⟩ := suf_drop (show Suf r (l.drop at_) from hsf)
      intro H1 tp v s1 htp dv
      dsimp only at dv
      obtain ⟨tv, txs, rfl, _⟩ := pat_tag dv
      walk_at "g"
      refine ⟨tp, _, rfl, htp, rfl, ?_⟩
      walk_at "g"
      refine Gx.newT (by simp) (fun tw H2 E2 => ?_)
      walk_at "g"
      refine dispSh (fun dd H3 s3 e3 => ?_)
      walk_at "g"
      refine ⟨dd, _, rfl, shGet hsh e3, ?_⟩
      walk_at "g"
      have ar : arity sh ≤ 2 := by unfold arity; split; · omega
                                   · split <;> omega
      have s13 : Same H H3 := s1.trans (E2.same.trans s3)
      refine ⟨_, rfl, by omega, by omega, for_range (fun i σ H' => ∃ (ws : List (List Nat)) (x : List Nat) (tt : Addr) (y1 y2 y3 y4 : Option V), Same H3 H' ∧ l.drop (l.length - x.length) = x ∧ x.length ≤ l.length ∧ ws.length = i ∧ SqT K H' tt (.str (Gx.mkS sh) :: .ref tv :: ws.map fun z => .str (Gx.mkS z)) ∧ leafK (sh == swapS) p (arity sh - i) ws x = leafK (sh == swapS) p (arity sh) [] r ∧
          σ = [some (.str (Gx.mkS sh)), some (.str (Gx.mkS l)), some (.int ((l.length - x.length : Nat) : Nat)), some (.ref tv), some (.ref tt), y1, y2, y3, y4])
        ⟨[], r, tw, _, _, _, _, Same.refl _, t3, by have := Suf.len t1; omega, rfl, s3.seqT (SqT.of E2.at_), rfl, rfl⟩ ?_ ?_⟩
      · rintro i σ H' hi ⟨ws, x, tt, y1, y2, y3, y4, s', hx, hxl, hws, hT, hk, rfl⟩
        rw [Int.toNat_natCast] at hi
        obtain ⟨m, hm⟩ : ∃ m, arity sh - i = m + 1 := ⟨arity sh - i - 1, by omega⟩
        rw [hm] at hk
        walk_at "g"
        rw [sl1, hx]
        refine Gx.iteDn (fun hno => ?_) (fun hyes => ?_)
        · walk_at "g"
          refine Gx.newT (by simp) (fun t4 H4 E4 => ?_)
          rw [← hk, leafK, fin_bad (fun u hu => hno (take1_iff.mpr ⟨u, hu⟩)), bind_B] at q
          exact q H4 t4 (s13.trans (s'.trans E4.same)) (SqT.of E4.at_)
        obtain ⟨u, rfl⟩ := take1_iff.mp hyes
        rw [leafK, fin_same, bind_E] at hk
        obtain ⟨k1, k2, k3⟩ := suf_at hx
        rw [List.length_cons] at hxl
        walk_at "g"
        refine ⟨l, l.length - (44 :: u).length + 1, false, rfl, by omega, hl, ?_⟩
        rw [k2, show spanX false 0 u = (spanS u).2 from rfl]
        walk_at "g"
        have hS := spanS_suf u
        have hSl := congrArg List.length hS
        rw [List.length_append] at hSl
        obtain ⟨st, hst⟩ : ∃ st : Nat, st = l.length - u.length := ⟨_, rfl⟩
        have est : ((l.length - (44 :: u).length : Nat) : Int) + 1 = (st : Nat) := by rw [List.length_cons]; omega
        have est' : l.length - (44 :: u).length + 1 = st := by rw [List.length_cons]; omega
        rw [est'] at k2
        rw [est]
        refine ⟨fun σ' H'' => ∃ (w v : List Nat) (y3 y4 : Option V), txtR (sh == swapS) u = .ok w v ∧ u = w ++ v ∧ Same H' H'' ∧ σ' = [some (.str (Gx.mkS sh)), some (.str (Gx.mkS l)), some (.int ((l.length - v.length : Nat) : Nat)), some (.ref tv), some (.ref tt), some (.int (0 + (i : Int))), some (.int (st : Nat)), y3, y4], ?_, ?_⟩
        · walk_at "g"
          refine Gx.iteD (fun hsw => ?_) (fun hsw => ?_)
          · have : sh = swapS := hsw
            subst this
            walk_at "g"
            have hn : (((l.length - (spanS u).2.length : Nat) : Int) - (st : Nat)).toNat = (spanS u).1.length := by omega
            refine ⟨_, _, rfl, ⟨by omega, by omega, by omega, by omega⟩, fun D hD_ => ?_⟩
            rw [hn]
            refine lc_range (fun k H4 => H4 = upd H' D (.lst ((dbl u st k).map V.int))) rfl ?_ ?_
            · rintro k H4 hkk rfl
              walk_at "g"
              refine ⟨rfl, ?_⟩
              walk_at "g"
              have g1 : l.getD (st + k) 0 = u.getD k 0 := by rw [← k2, List.getD_eq_getElem?_getD, List.getD_eq_getElem?_getD, List.getElem?_drop]
              have g2 : (l.take (st + k)).drop st = u.take k := by rw [List.drop_take, k2, show st + k - st = k by omega]
              rw [show ((st : Int) + (k : Int)).toNat = st + k by omega, Int.toNat_natCast, g1, g2]
              have hdl := dbl_len u st k
              refine Gx.iteD (fun h => ?_) (fun h => ?_)
              · walk_at "g"
                refine ⟨_, upd_same, Gx.lineL (by rw [List.length_map]; omega), ?_⟩
                rw [L2.upd_upd, dbl_succ, if_pos (decide_eq_true h), List.map_append]
                rfl
              · rw [dbl_succ, if_neg (by rw [decide_eq_false h]; decide), List.append_nil]
            · rintro H4 rfl
              walk_at "g"
              refine Gx.newL (by simp) (fun p5 H5 E5 => ?_)
              refine Gx.cat1 (E5.same _ _ upd_same) E5.at_ (by rw [List.length_map, List.length_singleton]; have := dbl_len u st (spanS u).1.length; omega) (fun p6 H6 E6 => ?_)
              walk_at "g"
              refine ⟨p6, dbl u st (spanS u).1.length ++ [((st + (spanS u).1.length : Nat) : Int)], rfl, SqL.of (E6.at_.trans ?_), by simp, fun z hz hle => ?_⟩
              · rw [List.map_append, show l.length - (spanS u).2.length = st + (spanS u).1.length by omega]
                rfl
              have hz' := dbl_min hz hle
              subst hz'
              have hD := spanD_suf u []
              have hDl := congrArg List.length hD
              rw [List.length_append] at hDl
              have s6 : Same H' H6 := (Gx.Same.put (Same.refl _) hD_).trans (E5.same.trans E6.same)
              have eat : l.length - (spanD [] u).2.length = st + (spanD [] u).1.length := by omega
              walk_at "g"
              refine Gx.iteD (fun h5 => ?_) (fun h5 => ?_)
              · have er : txtR (swapS == swapS) u = .bad (spanD [] u).2 := by
                  show ren u = _
                  unfold ren
                  rw [if_pos (by omega)]
                rw [er, bind_B] at hk
                rw [← hk] at q
                walk_at "g"
                refine Gx.newT (by simp) (fun t4 H7 E7 => ?_)
                refine q H7 t4 (s13.trans (s'.trans (s6.trans E7.same))) ?_
                rw [eat]
                exact SqT.of E7.at_
              · have er : txtR (swapS == swapS) u = .ok (spanD [] u).1 (spanD [] u).2 := by
                  show ren u = _
                  unfold ren
                  rw [if_neg (by omega)]
                walk_at "g"
                exact ⟨_, _, _, _, er, hD, s6, by rw [eat]⟩
          · walk_at "g"
            have e : txtR (sh == swapS) u = .ok (spanS u).1 (spanS u).2 := by
              unfold txtR
              rw [if_neg]
              intro z
              exact hsw (eq_of_beq z)
            exact ⟨_, _, _, _, e, hS, Same.refl _, rfl⟩
        · rintro σ' H'' ⟨w, v, y5, y6, hw, huv, s'', rfl⟩
          rw [hw, bind_E] at hk
          have hvl := congrArg List.length huv
          rw [List.length_append] at hvl
          walk_at "g"
          rw [Int.toNat_natCast, Int.toNat_natCast, piece (w := w) (t := v) (by rw [k2]; exact huv) (by omega)]
          refine Gx.newT (by simp) (fun w2 H5 E5 => ?_)
          refine Gx.catA (E5.same.seqT (s''.seqT hT)) (SqT.of E5.at_) (by simp; omega) (fun w3 H6 s6 h6 => ?_)
          have hv := (suf_drop (l := l) (a := st) (show Suf v (l.drop st) by rw [k2, huv]; exact ⟨w, rfl⟩)).2.2
          refine ⟨ws ++ [w], v, w3, _, _, _, _, s'.trans (s''.trans (E5.same.trans s6)), hv, by omega, by rw [List.length_append, hws]; rfl, ?_, ?_, rfl⟩
          · rw [List.map_append]
            exact h6
          · rw [show arity sh - (i + 1) = m by omega]
            exact hk
      · rintro σ H' ⟨ws, x, tt, y1, y2, y3, y4, s', hx, hxl, hws, hT, hk, rfl⟩
        rw [Int.toNat_natCast] at hws hk
        rw [Nat.sub_self] at hk
        have hd := ofL_data hsh p hws
        walk_at "g"
        rw [sl1, hx]
        refine Gx.iteDn (fun hno => ?_) (fun hyes => ?_)
        · walk_at "g"
          refine Gx.newT (by simp) (fun t4 H4 E4 => ?_)
          rw [← hk, leafK, fin_bad (fun u hu => hno (take1_iff.mpr ⟨u, hu⟩))] at q
          exact q H4 t4 (s13.trans (s'.trans E4.same)) (SqT.of E4.at_)
        · obtain ⟨u, rfl⟩ := take1_iff.mp hyes
          rw [← hk, leafK, fin_same] at q
          walk_at "g"
          refine Gx.newT (by simp) (fun t4 H4 E4 => ?_)
          refine q H4 t4 (.ref tt) (s13.trans (s'.trans E4.same)) ?_ ?_
          · rw [behind_len hx]
            exact SqT.of E4.at_
          · rw [hd]
            refine .tup (E4.same.seqT hT) (.cons (.str _) (.cons (Gx.dp_same (E2.same.trans (s3.trans (s'.trans E4.same))) _ _ dv) ?_))
            clear hT hd hws hk q
            induction ws with
            | nil => exact .nil
            | cons z ws ih => exact .cons (.str _) ih
end
end K13
namespace K13
open PySem PySem.Spec PyProof.Rows L2
local macro_rules | `(tactic| walk_at "con") => `(tactic| first | with_reducible refine Gx.conE K13.ks0 ?_ | with_reducible refine Gx.conE K13.ks1 ?_ | with_reducible refine Gx.conE K13.ks2 ?_ | with_reducible refine Gx.conE K13.ks3 ?_ | with_reducible refine Gx.conE K13.ks4 ?_ | with_reducible refine Gx.conE K13.ks5 ?_ | with_reducible refine Gx.conE K13.ks6 ?_ | with_reducible refine Gx.conE K13.ks7 ?_ | with_reducible refine Gx.conE K13.ks8 ?_ | with_reducible refine Gx.conE K13.ks9 ?_ | with_reducible refine Gx.conE K13.ks10 ?_ | with_reducible refine Gx.conE K13.ks11 ?_ | with_reducible refine Gx.conE K13.ks12 ?_ | with_reducible refine Gx.conE K13.ks13 ?_ | with_reducible refine Gx.conE K13.ks14 ?_ | with_reducible refine Gx.conE K13.ks15 ?_ | with_reducible refine Gx.conE K13.ks16 ?_ | with_reducible refine Gx.conE K13.ks17 ?_ | with_reducible refine Gx.conE K13.ks18 ?_ | with_reducible refine Gx.conE K13.ks19 ?_ | with_reducible refine Gx.conE K13.ks20 ?_ | with_reducible refine Gx.conE K13.ks21 ?_ | with_reducible refine Gx.conE K13.ks22 ?_ | with_reducible refine Gx.conE K13.ks23 ?_ | with_reducible refine Gx.conE K13.ks24 ?_ | with_reducible refine Gx.conE K13.ks25 ?_ | with_reducible refine Gx.conE K13.ks26 ?_ | with_reducible refine Gx.conE K13.ks27 ?_ | with_reducible refine Gx.conE K13.ks28 ?_ | with_reducible refine Gx.conE K13.ks29 ?_ | with_reducible refine Gx.conE K13.ks30 ?_ | with_reducible refine Gx.conE K13.ks31 ?_ | with_reducible refine Gx.conE K13.ks32 ?_ | with_reducible refine Gx.conE K13.ks33 ?_ | with_reducible refine Gx.conE K13.ks34 ?_ | with_reducible refine Gx.conE K13.ks35 ?_ | with_reducible refine Gx.conE K13.ks36 ?_ | with_reducible refine Gx.conE K13.ks37 ?_ | with_reducible refine Gx.conE K13.ks38 ?_ | with_reducible refine Gx.conE K13.ks39 ?_ | with_reducible refine Gx.conE K13.ks40 ?_ | with_reducible refine Gx.conE K13.ks41 ?_ | with_reducible refine Gx.conE K13.ks42 ?_ | with_reducible refine Gx.conE K13.ks43 ?_ | with_reducible refine Gx.conE K13.ks44 ?_ | with_reducible refine Gx.conE K13.ks45 ?_ | with_reducible refine Gx.conE K13.ks46 ?_ | with_reducible refine Gx.conE K13.ks47 ?_ | with_reducible refine Gx.conE K13.ks48 ?_ | with_reducible refine Gx.conE K13.ks49 ?_ | with_reducible refine Gx.conE K13.ks50 ?_ | with_reducible refine Gx.conE K13.ks51 ?_ | with_reducible refine Gx.conE K13.ks52 ?_ | with_reducible refine Gx.conE K13.ks53 ?_ | with_reducible refine Gx.conE K13.ks54 ?_ | with_reducible refine Gx.conE K13.ks55 ?_ | with_reducible refine Gx.conE K13.ks56 ?_ | with_reducible refine Gx.conE K13.ks57 ?_ | with_reducible refine Gx.conE K13.ks58 ?_ | with_reducible refine Gx.conE K13.ks59 ?_ | with_reducible refine Gx.conE K13.ks60 ?_ | with_reducible refine Gx.conE K13.ks61 ?_ | with_reducible refine Gx.conE K13.ks62 ?_ | with_reducible refine Gx.conE K13.ks63 ?_)
section
variable {P : Program} {w : World} {K : PySem.W.Frag} {mg : Str → Option Value} {base : Heap}
/-! ### how deep and how wide the texts are -/
theorem Bal.lt {loose : Bool} {p : Pat} {t : List Nat} (h : LT loose 0 p t) (hs : p.sg) (hd : p.depth ≤ 3) : Bal 9 t := (h.bal hs).mono (by omega)
theorem bal_twoS (k : Nat) {m : Nat} : Bal m (twoS k) := by
  have h : ∀ l : List Nat, (∀ c ∈ l, c ≠ 40 ∧ c ≠ 41) → Bal m l := fun l => by
    induction l with
    | nil => exact fun _ r => by show dep r ≤ _; omega
    | cons c l ih => exact fun h => .cons (h c List.mem_cons_self).1 (h c List.mem_cons_self).2 (ih fun d hd => h d (List.mem_cons_of_mem _ hd))
  refine h _ ?_
  match k with
  | 0 => decide
  | 1 => decide
  | 2 => decide
  | _ + 3 => show ∀ c ∈ ([97, 102, 116, 101, 114] : List Nat), _; decide
theorem bal_lit {m : Nat} : ∀ l : List Nat, (∀ c ∈ l, c ≠ 40 ∧ c ≠ 41) → Bal m l
  | [], _ => fun r => by show dep r ≤ _; omega
  | c :: l, h => .cons (h c List.mem_cons_self).1 (h c List.mem_cons_self).2 (bal_lit l fun d hd => h d (List.mem_cons_of_mem _ hd))
theorem LLT.bal {loose : Bool} {t : Ln} {u : List Nat} (h : LLT loose t u) : t.sg → t.pd ≤ 3 → Bal (9 + t.nest) u := by
  induction h with
  | copy h => exact fun hs hp => (bal_lit copyO (by decide)).app (((Bal.lt h hs hp).mono (by omega)).app (.one (by decide) (by decide)))
  | swap h => exact fun hs hp => (bal_lit swapO (by decide)).app (((Bal.lt h hs.1 hp).mono (by omega)).app (.cons (by decide) (by decide) ((Bal.sg hs.2).app (.one (by decide) (by decide)))))
  | hide h => exact fun hs hp => (bal_lit hideO (by decide)).app (((Bal.lt h hs.1 hp).mono (by omega)).app (.cons (by decide) (by decide) ((Bal.sg hs.2.1).app (.cons (by decide) (by decide) ((Bal.sg hs.2.2).app (.one (by decide) (by decide)))))))
  | again _ ih =>
    intro hs hp
    exact (bal_lit againS (by decide)).app (ih hs hp).brk
  | @two k t x u v _ _ ih1 ih2 =>
    intro hs hp
    have p1 : t.pd ≤ 3 := Nat.le_trans (Nat.le_max_left _ _) hp
    have p2 : x.pd ≤ 3 := Nat.le_trans (Nat.le_max_right _ _) hp
    have h1 := (ih1 hs.1 p1).mono (n := 9 + max t.nest x.nest) (by omega)
    have h2 := (ih2 hs.2 p2).mono (n := 9 + max t.nest x.nest) (by omega)
    have h3 := (h1.app (Bal.cons (c := 44) (by decide) (by decide) h2)).brk
    have h4 := (bal_twoS k (m := 9 + max t.nest x.nest + 1)).app h3
    rw [show twoO k ++ (u ++ 44 :: (v ++ [41])) = twoS k ++ (40 :: ((u ++ 44 :: v) ++ [41])) by simp [twoO]]
    exact h4
theorem Bal.dep {m : Nat} {u : List Nat} (h : Bal m u) : K13.dep u ≤ m := by
  have := h []
  rw [List.append_nil] at this
  have : K13.dep u ≤ max m 0 := this
  omega
theorem msw_two (k : Nat) : msw (twoO k) = 0 := by
  match k with
  | 0 => decide
  | 1 => decide
  | 2 => decide
  | _ + 3 => show msw [97, 102, 116, 101, 114, 40] = 0; decide
theorem LLT.msw {loose : Bool} {t : Ln} {u : List Nat} (h : LLT loose t u) : t.sg → K13.msw u ≤ t.mw := by
  have ap : ∀ {w u : List Nat} {m : Nat}, K13.msw w = 0 → K13.msw u ≤ m → K13.msw (w ++ u) ≤ m := fun {w u m} h1 h2 => by
    have := (msw_app_le w u).2
    omega
  have e1 : ∀ {u : List Nat} {m : Nat}, K13.msw u ≤ m → K13.msw (u ++ [41]) ≤ m := fun {u m} h => by
    have := (msw_app_le u [41]).2
    have e : K13.msw [41] = 0 := by decide
    omega
  induction h with
  | @copy p t h =>
    intro hs
    refine ap (by decide) ?_
    rw [(msw_sep t [] 125 (by decide)).2]
    exact Nat.max_le.mpr ⟨h.msw hs, Nat.zero_le _⟩
  | @swap p t to h =>
    intro hs
    refine ap (by decide) ?_
    rw [(msw_sep t _ 44 (by decide)).2, (msw_sep to [] 125 (by decide)).2, msw_sg hs.2]
    exact Nat.max_le.mpr ⟨h.msw hs.1, Nat.zero_le _⟩
  | @hide p t a b h =>
    intro hs
    refine ap (by decide) ?_
    rw [(msw_sep t _ 44 (by decide)).2, (msw_sep a _ 44 (by decide)).2, (msw_sep b [] 125 (by decide)).2, msw_sg hs.2.1, msw_sg hs.2.2]
    exact Nat.max_le.mpr ⟨h.msw hs.1, Nat.zero_le _⟩
  | again _ ih => exact fun hs => ap (by decide) (e1 (ih hs))
  | @two k t x u v _ _ ih1 ih2 =>
    intro hs
    refine ap (msw_two k) ?_
    rw [(msw_sep u _ 44 (by decide)).2]
    exact Nat.max_le.mpr ⟨Nat.le_trans (ih1 hs.1) (Nat.le_max_left _ _), Nat.le_trans (e1 (ih2 hs.2)) (Nat.le_max_right _ _)⟩
theorem LLT.pos {loose : Bool} {t : Ln} {u : List Nat} (h : LLT loose t u) : 0 < u.length := by
  cases h <;> simp <;> omega
/-- a text that is spoilt at one place -/
structure NearL (l t : List Nat) : Prop where
  len : t.length ≤ l.length + 2
  dp : dep t ≤ dep l + 4
  mw : msw t ≤ 2 * msw l + 2
theorem near_mk {l t p y z q : List Nat} (e1 : l = p ++ (y ++ q)) (e2 : t = p ++ (z ++ q)) (hy : y.length ≤ 2) (hz : z.length ≤ 2) : NearL l t := by
  subst e1 e2
  have d1 := (dep_ups y q).1
  have d2 := (dep_ups z q).2
  have m1 := (msw_app_le p (z ++ q)).2
  have m2 := (msw_app_le z q).2
  have m3 := (msw_len z).1
  have m4 := msw_left p (y ++ q)
  have m5 := msw_right p (y ++ q)
  have m6 := msw_right y q
  refine ⟨?_, ?_, by omega⟩
  · simp only [List.length_append]; omega
  · exact dep_lip p (by omega)
def near9 (l : List Nat) (c a : Nat) : List (List Nat) := [l.take a, l.take a ++ [c] ++ l.drop (a + 1), l.take a ++ [c] ++ l.drop a, l.take a ++ l.drop (a + 1), l.take a ++ (l.drop (a + 1)).take 1 ++ (l.drop a).take 1 ++ l.drop (a + 2), l.take (a + 1) ++ l.drop a, l.take a ++ [91, 93] ++ l.drop a, l.take a ++ [44] ++ l.drop a, l ++ [c]]
theorem near_all (l : List Nat) (c : Nat) {a : Nat} (ha : a < l.length) : ∀ t ∈ near9 l c a, NearL l t := by
  have hd := drop_get ha
  have e0 : l = l.take a ++ l.drop a := (List.take_append_drop a l).symm
  have e1 : l = l.take a ++ ([l.getD a 0] ++ l.drop (a + 1)) := by rw [List.singleton_append, ← hd]; exact e0
  have et : l.take (a + 1) = l.take a ++ [l.getD a 0] := by
    rw [List.take_succ, List.getD_eq_getElem?_getD, List.getElem?_eq_getElem ha]
    rfl
  intro t ht
  unfold near9 at ht
  simp only [List.mem_cons, List.not_mem_nil, or_false] at ht
  rcases ht with rfl | rfl | rfl | rfl | rfl | rfl | rfl | rfl | rfl
  · refine ⟨by simp; omega, ?_, ?_⟩
    · have := dep_left (l.take a) (l.drop a); rw [← e0] at this; omega
    · have := msw_left (l.take a) (l.drop a); rw [← e0] at this; omega
  · exact near_mk (z := [c]) e1 (by rw [List.append_assoc]) (by simp) (by simp)
  · exact near_mk (y := []) (z := [c]) e0 (by rw [List.append_assoc]) (by simp) (by simp)
  · exact near_mk (z := []) e1 rfl (by simp) (by simp)
  · rw [hd]
    cases hd1 : l.drop (a + 1) with
    | nil =>
      have : l.drop (a + 2) = [] := List.drop_eq_nil_of_le (by have := congrArg List.length hd1; simp at this; omega)
      rw [this]
      exact near_mk (y := [l.getD a 0]) (z := [l.getD a 0]) (q := []) (by rw [hd1] at e1; exact e1) (by simp) (by simp) (by simp)
    | cons d r =>
      have : l.drop (a + 2) = r := by
        have h := List.drop_drop (l := l) (i := 1) (j := a + 1)
        rw [hd1] at h
        exact h.symm
      rw [this]
      exact near_mk (y := [l.getD a 0, d]) (z := [d, l.getD a 0]) (q := r) (by rw [hd1] at e1; exact e1) (by simp) (by simp) (by simp)
  · exact near_mk (y := []) (z := [l.getD a 0]) e0 (by rw [et, List.append_assoc]) (by simp) (by simp)
  · exact near_mk (y := []) (z := [91, 93]) e0 (by rw [List.append_assoc]) (by simp) (by simp)
  · exact near_mk (y := []) (z := [44]) e0 (by rw [List.append_assoc]) (by simp) (by simp)
  · exact near_mk (p := l) (y := []) (z := [c]) (q := []) (by simp) (by simp) (by simp) (by simp)
theorem dep_len (l : List Nat) : dep l ≤ l.length := by
  have := (dep_ups l []).2
  rw [List.append_nil] at this
  have e : dep ([] : List Nat) = 0 := rfl
  omega
end
end K13
namespace K13
open PySem PySem.Spec PyProof.Rows L2
local macro_rules | `(tactic| walk_at "con") => `(tactic| first | with_reducible refine Gx.conE K13.ks0 ?_ | with_reducible refine Gx.conE K13.ks1 ?_ | with_reducible refine Gx.conE K13.ks2 ?_ | with_reducible refine Gx.conE K13.ks3 ?_ | with_reducible refine Gx.conE K13.ks4 ?_ | with_reducible refine Gx.conE K13.ks5 ?_ | with_reducible refine Gx.conE K13.ks6 ?_ | with_reducible refine Gx.conE K13.ks7 ?_ | with_reducible refine Gx.conE K13.ks8 ?_ | with_reducible refine Gx.conE K13.ks9 ?_ | with_reducible refine Gx.conE K13.ks10 ?_ | with_reducible refine Gx.conE K13.ks11 ?_ | with_reducible refine Gx.conE K13.ks12 ?_ | with_reducible refine Gx.conE K13.ks13 ?_ | with_reducible refine Gx.conE K13.ks14 ?_ | with_reducible refine Gx.conE K13.ks15 ?_ | with_reducible refine Gx.conE K13.ks16 ?_ | with_reducible refine Gx.conE K13.ks17 ?_ | with_reducible refine Gx.conE K13.ks18 ?_ | with_reducible refine Gx.conE K13.ks19 ?_ | with_reducible refine Gx.conE K13.ks20 ?_ | with_reducible refine Gx.conE K13.ks21 ?_ | with_reducible refine Gx.conE K13.ks22 ?_ | with_reducible refine Gx.conE K13.ks23 ?_ | with_reducible refine Gx.conE K13.ks24 ?_ | with_reducible refine Gx.conE K13.ks25 ?_ | with_reducible refine Gx.conE K13.ks26 ?_ | with_reducible refine Gx.conE K13.ks27 ?_ | with_reducible refine Gx.conE K13.ks28 ?_ | with_reducible refine Gx.conE K13.ks29 ?_ | with_reducible refine Gx.conE K13.ks30 ?_ | with_reducible refine Gx.conE K13.ks31 ?_ | with_reducible refine Gx.conE K13.ks32 ?_ | with_reducible refine Gx.conE K13.ks33 ?_ | with_reducible refine Gx.conE K13.ks34 ?_ | with_reducible refine Gx.conE K13.ks35 ?_ | with_reducible refine Gx.conE K13.ks36 ?_ | with_reducible refine Gx.conE K13.ks37 ?_ | with_reducible refine Gx.conE K13.ks38 ?_ | with_reducible refine Gx.conE K13.ks39 ?_ | with_reducible refine Gx.conE K13.ks40 ?_ | with_reducible refine Gx.conE K13.ks41 ?_ | with_reducible refine Gx.conE K13.ks42 ?_ | with_reducible refine Gx.conE K13.ks43 ?_ | with_reducible refine Gx.conE K13.ks44 ?_ | with_reducible refine Gx.conE K13.ks45 ?_ | with_reducible refine Gx.conE K13.ks46 ?_ | with_reducible refine Gx.conE K13.ks47 ?_ | with_reducible refine Gx.conE K13.ks48 ?_ | with_reducible refine Gx.conE K13.ks49 ?_ | with_reducible refine Gx.conE K13.ks50 ?_ | with_reducible refine Gx.conE K13.ks51 ?_ | with_reducible refine Gx.conE K13.ks52 ?_ | with_reducible refine Gx.conE K13.ks53 ?_ | with_reducible refine Gx.conE K13.ks54 ?_ | with_reducible refine Gx.conE K13.ks55 ?_ | with_reducible refine Gx.conE K13.ks56 ?_ | with_reducible refine Gx.conE K13.ks57 ?_ | with_reducible refine Gx.conE K13.ks58 ?_ | with_reducible refine Gx.conE K13.ks59 ?_ | with_reducible refine Gx.conE K13.ks60 ?_ | with_reducible refine Gx.conE K13.ks61 ?_ | with_reducible refine Gx.conE K13.ks62 ?_ | with_reducible refine Gx.conE K13.ks63 ?_)
section
variable {P : Program} {w : World} {K : PySem.W.Frag} {mg : Str → Option Value} {base : Heap}
/-- one step of the law's search for an opener -/
def opStep (s : List Nat) (x : Nat × List Nat) (w : List Nat) : Nat × List Nat := (max x.1 (shr s w), if shr s w = w.length then w else x.2)
def opFold (s : List Nat) (ws : List (List Nat)) : Nat × List Nat := ws.foldl (opStep s) (0, [])
theorem opFold_snoc (s : List Nat) (ws : List (List Nat)) (w : List Nat) : opFold s (ws ++ [w]) = opStep s (opFold s ws) w := by
  unfold opFold
  rw [List.foldl_append]
  rfl
theorem opStep_bad (s : List Nat) : ∀ (ws : List (List Nat)) (m : Nat) (nm r : List Nat), opnL ws m s = .bad r → (ws.foldl (opStep s) (m, nm)).2 = nm ∧ r = s.drop (ws.foldl (opStep s) (m, nm)).1
  | [], m, nm, r, h => by cases h; exact ⟨rfl, rfl⟩
  | w :: ws, m, nm, r, h => by
    unfold opnL at h
    split at h
    · cases h
    · rename_i e
      have := opStep_bad s ws (max m (shr s w)) nm r h
      show (ws.foldl (opStep s) (max m (shr s w), if shr s w = w.length then w else nm)).2 = nm ∧ _
      rw [List.foldl_cons]
      show (ws.foldl (opStep s) (max m (shr s w), if shr s w = w.length then w else nm)).2 = nm ∧ r = s.drop (ws.foldl (opStep s) (max m (shr s w), if shr s w = w.length then w else nm)).1
      rw [if_neg e]
      exact this
theorem op_only {s w w' : List Nat} (hw : w ∈ opL) (hw' : w' ∈ opL) (h : shr s w = w.length) (h' : shr s w' = w'.length) : w = w' := by
  have e := shr_full s w h
  have e' := shr_full s w' h'
  have p1 : w <+: s := ⟨_, e.symm⟩
  have p2 : w' <+: s := ⟨_, e'.symm⟩
  have key : ∀ a ∈ opL, ∀ b ∈ opL, a.isPrefixOf b = true → a = b := by decide
  rcases Nat.le_total w.length w'.length with hl | hl
  · exact key w hw w' hw' (List.isPrefixOf_iff_prefix.mpr (List.prefix_of_prefix_length_le p1 p2 hl))
  · exact (key w' hw' w hw (List.isPrefixOf_iff_prefix.mpr (List.prefix_of_prefix_length_le p2 p1 hl))).symm
theorem opStep_keep (s : List Nat) (w : List Nat) (hw : w ∈ opL) (h : shr s w = w.length) : ∀ (ws : List (List Nat)) (m : Nat), (∀ x ∈ ws, x ∈ opL) → (ws.foldl (opStep s) (m, w)).2 = w
  | [], m, _ => rfl
  | x :: ws, m, hx => by
    rw [List.foldl_cons]
    show (ws.foldl (opStep s) (max m (shr s x), if shr s x = x.length then x else w)).2 = w
    have e : (if shr s x = x.length then x else w) = w := by
      split
      · rename_i z
        exact op_only (hx x List.mem_cons_self) hw z h
      · rfl
    rw [e]
    exact opStep_keep s w hw h ws _ fun y hy => hx y (List.mem_cons_of_mem _ hy)
theorem opStep_ok (s : List Nat) : ∀ (ws : List (List Nat)) (m : Nat) (nm w r : List Nat), (∀ x ∈ ws, x ∈ opL) → opnL ws m s = .ok w r → (ws.foldl (opStep s) (m, nm)).2 = w
  | [], m, nm, w, r, _, h => by cases h
  | x :: ws, m, nm, w, r, hx, h => by
    rw [List.foldl_cons]
    show (ws.foldl (opStep s) (max m (shr s x), if shr s x = x.length then x else nm)).2 = w
    unfold opnL at h
    split at h
    · rename_i e
      cases h
      rw [if_pos e]
      exact opStep_keep s x (hx x List.mem_cons_self) e ws _ fun y hy => hx y (List.mem_cons_of_mem _ hy)
    · rename_i e
      rw [if_neg e]
      exact opStep_ok s ws _ nm w r (fun y hy => hx y (List.mem_cons_of_mem _ hy)) h
theorem opFold_of (s : List Nat) : match opn s with
    | .ok w _ => (opFold s opL).2 = w
    | .bad r => (opFold s opL).2 = [] ∧ r = s.drop (opFold s opL).1 := by
  cases h : opn s with
  | ok w r => exact opStep_ok s opL 0 [] w r (fun x hx => hx) h
  | bad r => exact opStep_bad s opL 0 [] r h
/-- the places at which a word is still as it should be -/
theorem shr_iff : ∀ (s w : List Nat) (k : Nat), k < w.length → (s.take (k + 1) = w.take (k + 1) ↔ k < shr s w)
  | s, [], k, h => by simp at h
  | [], d :: w, k, h => by simp [shr]
  | c :: s, d :: w, k, h => by
    rw [List.take_succ_cons, List.take_succ_cons]
    unfold shr
    by_cases e : c = d
    · subst e
      rw [if_pos rfl]
      cases k with
      | zero => simp
      | succ k =>
        have := shr_iff s w k (by simpa using h)
        rw [List.cons.injEq]
        constructor
        · rintro ⟨_, h⟩
          have := this.mp h
          omega
        · intro h
          exact ⟨rfl, this.mpr (by omega)⟩
    · rw [if_neg e]
      constructor
      · intro h
        injection h with h _
        exact absurd h e
      · intro h
        omega
theorem shr_le2 (s x : List Nat) : shr s x ≤ x.length := (shr_le s x).2
theorem filter_lt (m : Nat) : ∀ n, ((List.range n).filter fun k => decide (k < m)).length = min n m
  | 0 => by simp
  | n + 1 => by
    rw [List.range_succ, List.filter_append, List.length_append, filter_lt m n]
    by_cases h : n < m
    · rw [List.filter_cons_of_pos (p := fun k => decide (k < m)) (decide_eq_true h)]
      simp
      omega
    · rw [List.filter_cons_of_neg (p := fun k => decide (k < m)) (by rw [decide_eq_false h]; decide)]
      simp
      omega
/-- an opener of one part or of two -/
def mkNode (k : Nat) : List Ln → Ln
  | [t] => .again t
  | t :: u :: _ => .two k t u
  | [] => .two k (.copy (.word [])) (.copy (.word []))
def nodeK (L : List Nat → Rs Ln) (k : Nat) : Nat → List Ln → List Nat → Rs Ln
  | 0, ts, x => fin 41 (mkNode k ts) x
  | n + 1, ts, x => (if ts = [] then Rs.ok () x else fin 44 () x).bind fun _ v => (L v).bind fun t y => nodeK L k n (ts ++ [t]) y
/-- how many parts, and which -/
def NodeU (u : List Nat) (k n : Nat) : Prop := (u = againO ∧ n = 1) ∨ (u = twoO k ∧ k < 4 ∧ n = 2)
theorem nodeK_of {u : List Nat} {k n : Nat} (h : NodeU u k n) (I : List Nat → Rs Pat) (L : List Nat → Rs Ln) (r : List Nat) : bodyR I L u r = nodeK L k n [] r := by
  rcases h with ⟨rfl, rfl⟩ | ⟨rfl, hk, rfl⟩
  · rfl
  · rw [body_two hk]
    rfl
theorem node_data {u : List Nat} {k n : Nat} (h : NodeU u k n) {ts : List Ln} (ht : ts.length = n) : lnD (mkNode k ts) = .tuple (.str (Gx.mkS u.dropLast) :: ts.map lnD) := by
  rcases h with ⟨rfl, rfl⟩ | ⟨rfl, hk, rfl⟩
  · match ts, ht with
    | [t], _ => rfl
  · rw [show (twoO k).dropLast = twoS k by unfold twoO; simp]
    match ts, ht with
    | [t, u], _ => rfl
theorem op_split {u : List Nat} (h : u ∈ opL) : (u = u.dropLast ++ [123] ∧ (u.dropLast = copyS ∨ u.dropLast = swapS ∨ u.dropLast = hideS) ∧ (∀ (I : List Nat → Rs Pat) (L : List Nat → Rs Ln) (r : List Nat), bodyR I L u r = leafR u.dropLast I r) ∧ ∀ r, dep (u ++ r) = dep r) ∨
    (u = u.dropLast ++ [40] ∧ ∃ k n, NodeU u k n ∧ ∀ r, dep (u ++ r) = dep r + 1) := by
  unfold opL at h
  simp only [List.mem_cons, List.not_mem_nil, or_false] at h
  rcases h with rfl | rfl | rfl | rfl | rfl | rfl | rfl | rfl
  · exact .inl ⟨rfl, .inl rfl, fun _ _ _ => rfl, fun _ => rfl⟩
  · exact .inl ⟨rfl, .inr (.inr rfl), fun _ _ _ => rfl, fun _ => rfl⟩
  · exact .inl ⟨rfl, .inr (.inl rfl), fun _ _ _ => rfl, fun _ => rfl⟩
  · exact .inr ⟨rfl, 0, 2, .inr ⟨rfl, by decide, rfl⟩, fun _ => rfl⟩
  · exact .inr ⟨rfl, 1, 2, .inr ⟨rfl, by decide, rfl⟩, fun _ => rfl⟩
  · exact .inr ⟨rfl, 2, 2, .inr ⟨rfl, by decide, rfl⟩, fun _ => rfl⟩
  · exact .inr ⟨rfl, 3, 2, .inr ⟨rfl, by decide, rfl⟩, fun _ => rfl⟩
  · exact .inr ⟨rfl, 0, 1, .inl ⟨rfl, rfl⟩, fun _ => rfl⟩
theorem opFold_le (s : List Nat) : ∀ (ws : List (List Nat)) (x : Nat × List Nat), x.1 ≤ s.length → (ws.foldl (opStep s) x).1 ≤ s.length
  | [], _, h => h
  | v :: ws, x, h => opFold_le s ws (opStep s x v) (Nat.max_le.mpr ⟨h, (shr_le s v).1⟩)
theorem ixSm1 {u v : List Nat} {c : Nat} {H : Hp} {Q : VK} (e : u = v ++ [c]) (hu : u.length ≤ 16777216) (q : Q (.str (Gx.mkS [c])) H) : rIxS (.str (Gx.mkS u)) (.int (-1)) H Q := by
  refine Gx.ixS (c := c) (by rw [Gx.mkS_len, sizeLine_eq]; exact hu) ?_ q
  rw [Gx.mkS_tl, e]
  exact atI_last _ _
theorem ln_ref {H : Hp} {v : V} {t : Ln} (h : Dp K H v (lnD t)) : ∃ a, v = .ref a := by
  cases t <;> (cases h; exact ⟨_, rfl⟩)
theorem LRd.same {K : PySem.W.Frag} {l : List Nat} {α : Type} {d : α → PyData} {x : Rs α} {H H' : Hp} {Q : VK} (s : Same H H') (q : LRd K l d x H Q) : LRd K l d x H' Q := by
  cases x with
  | ok p r => exact fun H2 t v s2 => q H2 t v (s.trans s2)
  | bad r => exact fun H2 t s2 => q H2 t (s.trans s2)
theorem nodeN {u : List Nat} {k n : Nat} (h : NodeU u k n) : (2 - if decide (u = [97, 103, 97, 105, 110, 40]) = true then (1 : Int) else 0) = ((n : Nat) : Int) := by
  rcases h with ⟨rfl, rfl⟩ | ⟨rfl, hk, rfl⟩
  · decide
  · match k, hk with
    | 0, _ => decide
    | 1, _ => decide
    | 2, _ => decide
    | 3, _ => decide
theorem nodeN_le {u : List Nat} {k n : Nat} (h : NodeU u k n) : 1 ≤ n ∧ n ≤ 2 := by
  rcases h with ⟨_, rfl⟩ | ⟨_, _, rfl⟩ <;> decide
def spLL (K : PySem.W.Frag) : Nat → Sp
  | 0 => fun _ _ _ _ => False
  | n + 1 => fun vs H Q _ => ∃ (l : List Nat) (at_ : Nat), vs = [.str (Gx.mkS l), .int (at_ : Nat)] ∧ at_ ≤ l.length ∧ l.length ≤ 100000 ∧ dep (l.drop at_) ≤ n ∧ LRd K l lnD (rdLn (n + 1) (l.drop at_)) H Q
set_option maxHeartbeats 8000000 in
theorem G__law_read_lens1 (T : Txt K mg w) {n : Nat} (G__law_read_lens : FnOk P w K mg base CX0 (n + 5) T.f__law_read_lens T.fd__law_read_lens ["text", "at"] (spLL K n)) : FnOk P w K mg base CX0 (n + 6) T.f__law_read_lens T.fd__law_read_lens ["text", "at"] (spLL K (n + 1)) := by
  have G__law_read_leaf := G__law_read_leaf (P := P) (w := w) (base := base) T
  refine T.F__law_read_lens.ok sc__law_read_lens (fun vs H Q E h => ?_) (fun cdv A outer s H vs Q E hr h => ?_)
  · obtain ⟨l, at_, rfl, _⟩ := h
    rfl
  · obtain ⟨l, at_, rfl, ha, hl, hdp, q⟩ := h
    refine ⟨_, ((pss_cons (ps_set (i := 2) sc__law_read_lens.nd rfl (Or.inl rfl) pe_int)
  (pss_cons (ps_set (i := 3) sc__law_read_lens.nd rfl (Or.inl rfl) pe_str)
  (pss_cons (ps_for PassesOwn.never rfl (pi_list (pe_lst (pa_cons pe_str (pa_cons pe_str (pa_cons pe_str (pa_cons pe_str (pa_cons pe_str (pa_cons pe_str (pa_cons pe_str (pa_cons pe_str pa_nil)))))))))) (pg_name (i := 4) sc__law_read_lens.nd rfl (Or.inr rfl))
  (pss_cons (ps_set (i := 5) sc__law_read_lens.nd rfl (Or.inl rfl) (pe_callB Gx.cr_lenQ (by rfl) T.z_len bt_len (pa_cons (pe_lc (own := [("k", 6)]) (g := (gName 6))  (by rfl) sc__law_read_lens.nd (pi_range1 rfl T.z_range (pa_cons (pe_callB Gx.cr_lenS (by rfl) T.z_len bt_len (pa_cons (pv 4) pa_nil)) pa_nil)) (blkOk_by (N := ["text", "at", "shared", "name", "opener", "size", "k", "tree", "part"]) (sc := defScope s__law_read_lens) (by decide +kernel)) (fun _ _ _ _ _ => (pg_name (i := 6) sc__law_read_lens.nd rfl (Or.inl rfl))) (fun _ _ _ _ _ => (pts_one (pt_cmpR op_eq (pe_slice sl_str (pv 0) (po_some (pv 1)) (po_some (pe_op op_add (pe_op op_add (pv 1) (pv 6)) pe_int))) (pe_slice sl_str (pv 4) po_none (po_some (pe_op op_add (pv 6) pe_int))) (nomark _)))) (fun _ _ _ _ _ => (pv 6))) pa_nil)))
  (pss_cons (ps_set (i := 2) sc__law_read_lens.nd rfl (Or.inl rfl) (pe_callB (Gx.cr_max2 rfl) (by rfl) T.z_max bt_max (pa_cons (pv 2) (pa_cons (pv 5) pa_nil))))
  (pss_one (ps_if (pt_cmpR op_eq (pv 5) (pe_callB Gx.cr_lenS (by rfl) T.z_len bt_len (pa_cons (pv 4) pa_nil)) (nomark _))
  (pss_one (ps_set (i := 3) sc__law_read_lens.nd rfl (Or.inl rfl) (pv 4)))
  pss_nil)))))
  (pss_cons (ps_if (pt_cmpR op_eq (pv 3) pe_str (nomark _))
  (pss_one (ps_ret (pe_tup (pa_cons pe_non (pa_cons (pe_op op_add (pv 1) (pv 2)) pa_nil)))))
  pss_nil)
  (pss_cons (ps_if (pt_cmpR op_eq (pe_ix ix_str (pv 3) (pe_un un_neg pe_int) (fun _ _ => rfl)) pe_str (nomark _))
  (pss_one (ps_ret (pe_call G__law_read_leaf (hr.mono (by first | decide | omega)) (by rfl) T.g__law_read_leaf T.F__law_read_leaf.kp T.b__law_read_leaf .nil pass0 (pa_cons (pe_slice sl_str (pv 3) po_none (po_some (pe_un un_neg pe_int))) (pa_cons (pv 0) (pa_cons (pe_op op_add (pv 1) (pe_callB Gx.cr_lenS (by rfl) T.z_len bt_len (pa_cons (pv 3) pa_nil))) pa_nil))))))
  pss_nil)
  (pss_cons (ps_set (i := 7) sc__law_read_lens.nd rfl (Or.inl rfl) (pe_tup (pa_cons (pe_slice sl_str (pv 3) po_none (po_some (pe_un un_neg pe_int))) pa_nil)))
  (pss_cons (ps_set (i := 1) sc__law_read_lens.nd rfl (Or.inr rfl) (pe_op op_sub (pe_op op_add (pv 1) (pe_callB Gx.cr_lenS (by rfl) T.z_len bt_len (pa_cons (pv 3) pa_nil))) pe_int))
  (pss_cons (ps_for PassesOwn.never rfl (pi_range1 rfl T.z_range (pa_cons (pe_op op_sub pe_int (pe_callTy Gx.cr_int1 (by rfl) T.z_int bt_int (pa_cons (pe_cmpR op_eq (pv 3) pe_str (nomark _)) pa_nil))) pa_nil)) (pg_name (i := 6) sc__law_read_lens.nd rfl (Or.inl rfl))
  (pss_cons (ps_if (PW.pt (pw_and (pt_cmpR op_gt (pv 6) pe_int (nomark _)) (pw_and1 (pt_cmpR op_ne (pe_slice sl_str (pv 0) (po_some (pv 1)) (po_some (pe_op op_add (pv 1) pe_int))) pe_str (nomark _)))))
  (pss_one (ps_ret (pe_tup (pa_cons pe_non (pa_cons (pv 1) pa_nil)))))
  pss_nil)
  (pss_cons (ps_asg (pe_call G__law_read_lens (hr.mono (by first | decide | omega)) (by rfl) T.g__law_read_lens T.F__law_read_lens.kp T.b__law_read_lens .nil pass0 (pa_cons (pv 0) (pa_cons (pe_op op_add (pv 1) pe_int) pa_nil))) (pg_tup rfl (pgs_cons (pg_name (i := 8) sc__law_read_lens.nd rfl (Or.inl rfl)) (pgs_cons (pg_name (i := 1) sc__law_read_lens.nd rfl (Or.inr rfl)) pgs_nil))))
  (pss_cons (ps_if (pt_cmpR Gx.op_isNG (pv 8) pe_non (nomark _))
  (pss_one (ps_ret (pe_tup (pa_cons pe_non (pa_cons (pv 1) pa_nil)))))
  pss_nil)
  (pss_one (ps_set (i := 7) sc__law_read_lens.nd rfl (Or.inl rfl) (pe_op op_catA (pv 7) (pe_tup (pa_cons (pv 8) pa_nil)))))))))
  (pss_cons (ps_if (pt_cmpR op_ne (pe_slice sl_str (pv 0) (po_some (pv 1)) (po_some (pe_op op_add (pv 1) pe_int))) pe_str (nomark _))
  (pss_one (ps_ret (pe_tup (pa_cons pe_non (pa_cons (pv 1) pa_nil)))))
  pss_nil)
  (pss_one (ps_ret (pe_tup (pa_cons (pv 7) (pa_cons (pe_op op_add (pv 1) pe_int) pa_nil))))))))))))))), ?_⟩
    clear G__law_read_leaf G__law_read_lens
    rw [st__law_read_lens]
    try dsimp only [cxOf]
    walk_at "g"
    refine Gx.newL (by simp) (fun L1 H1 E1 => ?_)
    have e1 : H1 L1 = some (.lst ((opL.map Gx.mkS).map V.str)) := E1.at_
    have hL := SqL.of (K := K) e1
    have hlen8 : opL.length = 8 := rfl
    have hsl : (l.drop at_).length = l.length - at_ := List.length_drop
    walk_at "g"
    refine ⟨⟨_, hL⟩, for_list (K := K) (a := L1) (xs := (opL.map Gx.mkS).map V.str) (fun i σ H' => Same H1 H' ∧ ∃ y4 y5 y6, σ = [some (.str (Gx.mkS l)), some (.int (at_ : Nat)), some (.int ((opFold (l.drop at_) (opL.take i)).1 : Nat)), some (.str (Gx.mkS (opFold (l.drop at_) (opL.take i)).2)), y4, y5, y6, none, none])
      ⟨Same.refl _, _, _, _, rfl⟩ (fun i σ H' _ z => z.1.seq hL) ?_ ?_⟩
    · rintro i z σ H' hi ⟨s', y4, y5, y6, rfl⟩
      rw [List.getElem?_map, List.getElem?_map] at hi
      obtain ⟨zs, hz, rfl⟩ := Option.map_eq_some_iff.mp hi
      obtain ⟨u, hu, rfl⟩ := Option.map_eq_some_iff.mp hz
      have huO := List.mem_of_getElem? hu
      have hul := opL_len u huO
      have htk : opL.take (i + 1) = opL.take i ++ [u] := by rw [List.take_succ, hu]; rfl
      have hsu := shr_le (l.drop at_) u
      have hfl := opFold_le (l.drop at_) (opL.take i) (0, []) (Nat.zero_le _)
      have hfl' : (opFold (l.drop at_) (opL.take i)).1 ≤ (l.drop at_).length := hfl
      rw [htk, opFold_snoc]
      generalize opFold (l.drop at_) (opL.take i) = F at *
      walk_at "g"
      refine ⟨_, rfl, by omega, by omega, fun D hD => ?_⟩
      rw [Int.toNat_natCast]
      refine lc_range (fun k H4 => ∃ acc, H4 = upd H' D (.lst acc) ∧ acc.length = ((List.range k).filter fun j => decide (j < shr (l.drop at_) u)).length) ⟨[], rfl, rfl⟩ ?_ ?_
      · rintro k H4 hkk ⟨acc, rfl, hacc⟩
        have ha6 : acc.length ≤ k := by rw [hacc]; exact Nat.le_trans (List.length_filter_le _ _) (by rw [List.length_range]; omega)
        walk_at "g"
        refine ⟨rfl, ?_⟩
        walk_at "g"
        rw [show ((at_ : Int) + (0 + (k : Int)) + 1).toNat = at_ + (k + 1) by omega, Int.toNat_natCast, show ((0 : Int) + (k : Int) + 1).toNat = k + 1 by omega, List.drop_take, show at_ + (k + 1) - at_ = k + 1 by omega, decide_eq_decide.mpr (shr_iff (l.drop at_) u k hkk)]
        refine Gx.iteD (fun h => ?_) (fun h => ?_)
        · walk_at "g"
          refine ⟨acc, upd_same, Gx.lineL (by omega), _, L2.upd_upd, ?_⟩
          rw [filter_lt, List.length_append, hacc, filter_lt, List.length_singleton]
          omega
        · exact ⟨acc, rfl, by rw [hacc, filter_lt, filter_lt]; omega⟩
      · rintro H4 ⟨acc, rfl, hacc⟩
        rw [filter_lt] at hacc
        have hacc2 : acc.length = shr (l.drop at_) u := by omega
        have sD : Same H' (upd H' D (.lst acc)) := Gx.Same.put (Same.refl _) hD
        have eD := SqL.of (K := K) (upd_same (H := H') (a := D) (o := .lst acc))
        have o1 : (if ((acc.length : Nat) : Int) > ((F.1 : Nat) : Int) then ((acc.length : Nat) : Int) else ((F.1 : Nat) : Int)) = ((opStep (l.drop at_) F u).1 : Nat) := by
          show _ = ((max F.1 (shr (l.drop at_) u) : Nat) : Int)
          rw [hacc2]
          split <;> omega
        have o2 : shr (l.drop at_) u = u.length → (opStep (l.drop at_) F u).2 = u := fun e => if_pos e
        have o3 : ¬ shr (l.drop at_) u = u.length → (opStep (l.drop at_) F u).2 = F.2 := fun e => if_neg e
        walk_at "g"
        refine Gx.iteD (fun h => ?_) (fun h => ?_)
        · walk_at "g"
          rw [← o1, o2 (by omega)]
          exact ⟨s'.trans sD, _, _, _, rfl⟩
        · walk_at "g"
          rw [← o1, o3 (by omega)]
          exact ⟨s'.trans sD, _, _, _, rfl⟩
    · rintro σ H' ⟨s', y4, y5, y6, rfl⟩
      rw [List.length_map, List.length_map, List.take_length]
      have hop := opFold_of (l.drop at_)
      have hfl := opFold_le (l.drop at_) opL (0, []) (Nat.zero_le _)
      have hfl' : (opFold (l.drop at_) opL).1 ≤ (l.drop at_).length := hfl
      generalize opFold (l.drop at_) opL = F at *
      have e0 : rdLn (n + 1) (l.drop at_) = (opn (l.drop at_)).bind (bodyR (inn (n + 1)) (rdLn n)) := rfl
      rw [e0] at q
      walk_at "g"
      cases hon : opn (l.drop at_) with
      | bad r =>
        rw [hon] at hop q
        obtain ⟨h2, rfl⟩ := hop
        rw [h2, decide_eq_true rfl]
        walk_at "g"
        refine Gx.newT (by simp) (fun t4 H4 E4 => ?_)
        refine q H4 t4 (E1.same.trans (s'.trans E4.same)) ?_
        rw [List.length_drop, hsl, show l.length - (l.length - at_ - F.1) = at_ + F.1 by omega]
        exact SqT.of E4.at_
      | ok u r =>
        rw [hon] at hop q
        rw [bind_E] at q
        dsimp only at hop
        obtain ⟨hu, hur⟩ := opnL_ok _ _ _ _ _ hon
        have hul := opL_len u hu
        have hlen := congrArg List.length hur
        rw [List.length_drop, List.length_append] at hlen
        have hdr : l.drop (at_ + u.length) = r := by rw [← List.drop_drop, hur, List.drop_left]
        obtain ⟨F1, F2⟩ := F
        dsimp only at hop hfl' ⊢
        subst hop
        have hne : F2 ≠ [] := fun z => by
          subst z
          exact absurd hu (by decide)
        rw [decide_eq_false hne]
        walk_at "g"
        rcases op_split hu with ⟨c1, c2, c3, c4⟩ | ⟨c1, k, N, hN, c4⟩
        · refine ixSm1 c1 (by omega) ?_
          walk_at "g"
          rw [decide_eq_true rfl]
          walk_at "g"
          refine slSm1 (by omega) ?_
          walk_at "g"
          refine ⟨l, at_ + F2.length, n + 1, F2.dropLast, rfl, by omega, hl, ?_, c2, ?_⟩
          · rw [hdr, ← c4 r, ← hur]
            omega
          · rw [hdr, ← c3 (inn (n + 1)) (rdLn n) r]
            exact LRd.same (E1.same.trans s') q
        · refine ixSm1 c1 (by omega) ?_
          walk_at "g"
          rw [decide_eq_false (by decide)]
          walk_at "g"
          refine slSm1 (by omega) ?_
          walk_at "g"
          refine Gx.newT (by simp) (fun tw H2 E2 => ?_)
          have hc1 := congrArg List.length c1
          rw [List.length_append, List.length_singleton] at hc1
          rw [nodeK_of hN] at q
          have hdr1 : dep r + 1 ≤ n := by
            rw [hur, c4 r] at hdp
            omega
          obtain ⟨hN1, hN2⟩ := nodeN_le hN
          have s02 : Same H H2 := E1.same.trans (s'.trans E2.same)
          walk_at "g"
          rw [nodeN hN]
          rw [show ((at_ : Int) + (F2.length : Int) - 1) = ((at_ + F2.length - 1 : Nat) : Int) by omega]
          refine ⟨_, rfl, by omega, by omega, for_range (fun i σ H' => ∃ (ts : List Ln) (vs : List V) (x : List Nat) (tt : Addr) (a : Nat) (y4 y5 y6 y8 : Option V), Same H2 H' ∧ ts.length = i ∧ a ≤ l.length ∧ (ts = [] → l.drop (a + 1) = x ∧ a + 1 ≤ l.length) ∧ (ts ≠ [] → l.drop a = x) ∧ dep x + 1 ≤ n ∧ DpAll K H' vs (ts.map lnD) ∧ SqT K H' tt (.str (Gx.mkS F2.dropLast) :: vs) ∧
              nodeK (rdLn n) k (N - i) ts x = nodeK (rdLn n) k N [] r ∧ σ = [some (.str (Gx.mkS l)), some (.int (a : Nat)), some (.int (F1 : Nat)), some (.str (Gx.mkS F2)), y4, y5, y6, some (.ref tt), y8])
            ⟨[], [], r, tw, at_ + F2.length - 1, _, _, _, _, Same.refl _, rfl, by omega, fun _ => ⟨by rw [show at_ + F2.length - 1 + 1 = at_ + F2.length by omega]; exact hdr, by omega⟩, fun h => absurd rfl h, hdr1, .nil, SqT.of E2.at_, rfl, rfl⟩ ?_ ?_⟩
          · rintro i σ H3 hi ⟨ts, vs, x, tt, a, y4, y5, y6, y8, s3, hts, hal, hp0, hp1, hdx, dvs, hT, hk, rfl⟩
            rw [Int.toNat_natCast] at hi
            obtain ⟨m, hm⟩ : ∃ m, N - i = m + 1 := ⟨N - i - 1, by omega⟩
            have hm2 : N - (i + 1) = m := by omega
            rw [hm, nodeK] at hk
            walk_at "g"
            refine Gx.and2T (p2 := ¬ (l.drop a).take 1 = [44]) (fun hpos Q' hQ' => ?_) ?_
            · walk_at "g"
              rw [sl1, show (!decide ((l.drop a).take 1 = [44])) = decide (¬ (l.drop a).take 1 = [44]) by simp]
              exact hQ'
            refine Gx.iteD (fun hbad => ?_) (fun hgood => ?_)
            · obtain ⟨hb1, hb2⟩ := hbad
              have hne : ts ≠ [] := fun z => by rw [z] at hts; simp at hts; omega
              have hx := hp1 hne
              rw [if_neg hne, fin_bad (fun u hu => hb2 (take1_iff.mpr ⟨u, by rw [hx]; exact hu⟩)), bind_B] at hk
              rw [← hk] at q
              walk_at "g"
              refine Gx.newT (by simp) (fun t4 H4 E4 => ?_)
              refine q H4 t4 (s02.trans (s3.trans E4.same)) ?_
              rw [← hx, List.length_drop, show l.length - (l.length - a) = a by omega]
              exact SqT.of E4.at_
            obtain ⟨z, hz1, hz2, hz3, hz4⟩ : ∃ z, l.drop (a + 1) = z ∧ a + 1 ≤ l.length ∧ ((rdLn n z).bind fun t y => nodeK (rdLn n) k m (ts ++ [t]) y) = nodeK (rdLn n) k N [] r ∧ dep z + 1 ≤ n := by
              by_cases hne : ts = []
              · obtain ⟨h1, h2⟩ := hp0 hne
                rw [if_pos hne, bind_E] at hk
                exact ⟨x, h1, h2, hk, hdx⟩
              · have hx := hp1 hne
                have hpos : (0 : Int) < 0 + (i : Int) := by
                  have : ts.length ≠ 0 := fun z => hne (List.eq_nil_of_length_eq_zero z)
                  omega
                obtain ⟨u, hu⟩ := take1_iff.mp (Classical.byContradiction fun z => hgood ⟨hpos, z⟩)
                rw [hx] at hu
                subst hu
                obtain ⟨k1, k2, k3⟩ := suf_at hx
                rw [if_neg hne, fin_same, bind_E] at hk
                exact ⟨u, k2, by omega, hk, by rw [dep_ne _ (by decide) (by decide)] at hdx; exact hdx⟩
            walk_at "g"
            cases n with
            | zero => omega
            | succ n =>
              have hsf := rdLn_suf (n + 1) z
              have hdn := rdLn_dn (n + 1) z
              refine ⟨l, a + 1, rfl, hz2, hl, by rw [hz1]; omega, ?_⟩
              rw [hz1]
              cases hrd : rdLn (n + 1) z with
              | bad y =>
                rw [hrd, bind_B] at hz3
                rw [← hz3] at q
                intro H4 t4 s4 h4
                walk_at "g"
                refine ⟨t4, _, rfl, h4, rfl, ?_⟩
                walk_at "g"
                refine Gx.newT (by simp) (fun t5 H5 E5 => ?_)
                exact q H5 t5 (s02.trans (s3.trans (s4.trans E5.same))) (SqT.of E5.at_)
              | ok t y =>
                rw [hrd, bind_E] at hz3
                rw [hrd] at hsf hdn
                obtain ⟨y1, y2, y3⟩ := suf_drop (l := l) (a := a + 1) (show Suf y _ by rw [hz1]; exact hsf)
                intro H4 tp v s4 htp dv
                obtain ⟨va, rfl⟩ := ln_ref dv
                walk_at "g"
                refine ⟨tp, _, rfl, htp, rfl, ?_⟩
                walk_at "g"
                refine Gx.newT (by simp) (fun w2 H5 E5 => ?_)
                have hvl := Gx.dpAll_len dvs
                rw [List.length_map] at hvl
                refine Gx.catA (E5.same.seqT (s4.seqT hT)) (SqT.of E5.at_) (by simp; omega) (fun w3 H6 s6 h6 => ?_)
                refine ⟨ts ++ [t], vs ++ [.ref va], y, w3, l.length - y.length, _, _, _, _, s3.trans (s4.trans (E5.same.trans s6)), by rw [List.length_append, hts]; rfl, y2, fun h => by simp at h, fun _ => y3, ?_, ?_, (show SqT K H6 w3 (.str (Gx.mkS F2.dropLast) :: (vs ++ [.ref va])) from h6), by rw [hm2]; exact hz3, rfl⟩
                · have : dep y ≤ dep z := hdn
                  omega
                · rw [List.map_append]
                  exact Gx.dpAll_app (Gx.dpAll_same (s4.trans (E5.same.trans s6)) _ _ dvs) (.cons (Gx.dp_same (E5.same.trans s6) _ _ dv) .nil)
          · rintro σ H3 ⟨ts, vs, x, tt, a, y4, y5, y6, y8, s3, hts, hal, hp0, hp1, hdx, dvs, hT, hk, rfl⟩
            rw [Int.toNat_natCast] at hts hk
            rw [Nat.sub_self, nodeK] at hk
            have hne : ts ≠ [] := fun z => by rw [z] at hts; simp at hts; omega
            have hx := hp1 hne
            have hd := node_data hN hts
            walk_at "g"
            rw [sl1]
            refine Gx.iteDn (fun hno => ?_) (fun hyes => ?_)
            · walk_at "g"
              refine Gx.newT (by simp) (fun t4 H4 E4 => ?_)
              rw [← hk, fin_bad (fun u hu => hno (take1_iff.mpr ⟨u, by rw [hx]; exact hu⟩))] at q
              refine q H4 t4 (s02.trans (s3.trans E4.same)) ?_
              rw [← hx, List.length_drop, show l.length - (l.length - a) = a by omega]
              exact SqT.of E4.at_
            · obtain ⟨u, hu⟩ := take1_iff.mp hyes
              rw [hx] at hu
              subst hu
              rw [← hk, fin_same] at q
              walk_at "g"
              refine Gx.newT (by simp) (fun t4 H4 E4 => ?_)
              refine q H4 t4 (.ref tt) (s02.trans (s3.trans E4.same)) ?_ ?_
              · rw [behind_len hx]
                exact SqT.of E4.at_
              · rw [hd]
                exact .tup (E4.same.seqT hT) (.cons (.str _) (Gx.dpAll_same E4.same _ _ dvs))
theorem G__law_read_lens (T : Txt K mg w) : ∀ n, FnOk P w K mg base CX0 (n + 5) T.f__law_read_lens T.fd__law_read_lens ["text", "at"] (spLL K n)
  | 0 => ⟨fun _ _ _ _ h => h.elim, fun _ _ _ _ _ _ _ _ _ _ _ _ _ h => h.elim⟩
  | n + 1 => G__law_read_lens1 T (G__law_read_lens T n)
def spLRd (K : PySem.W.Frag) (n : Nat) : Sp := fun vs H Q _ => ∃ (l : List Nat), vs = [.str (Gx.mkS l)] ∧ l.length ≤ 100000 ∧ dep l ≤ n ∧ LRd K l lnD (readL (n + 1) l) H Q
theorem G__law_read (T : Txt K mg w) (n : Nat) : FnOk P w K mg base CX0 (n + 7) T.f__law_read T.fd__law_read ["text"] (spLRd K n) := by
  have G__law_read_lens := G__law_read_lens (P := P) (w := w) (base := base) T (n + 1)
  refine T.F__law_read.ok sc__law_read (fun vs H Q E h => ?_) (fun cdv A outer s H vs Q E hr h => ?_)
  · obtain ⟨l, rfl, _⟩ := h
    rfl
  · obtain ⟨l, rfl, hl, hc, q⟩ := h
    refine ⟨_, ((pss_cons (ps_asg (pe_call G__law_read_lens (hr.mono (by first | decide | omega)) (by rfl) T.g__law_read_lens T.F__law_read_lens.kp T.b__law_read_lens .nil pass0 (pa_cons (pv 0) (pa_cons pe_int pa_nil))) (pg_tup rfl (pgs_cons (pg_name (i := 1) sc__law_read.nd rfl (Or.inl rfl)) (pgs_cons (pg_name (i := 2) sc__law_read.nd rfl (Or.inl rfl)) pgs_nil))))
  (pss_cons (ps_if (PW.pt (pw_and (pt_cmpR Gx.op_notNG (pv 1) pe_non (nomark _)) (pw_and1 (pt_cmpR op_lt (pv 2) (pe_callB Gx.cr_lenS (by rfl) T.z_len bt_len (pa_cons (pv 0) pa_nil)) (nomark _)))))
  (pss_one (ps_ret (pe_tup (pa_cons pe_non (pa_cons (pv 2) pa_nil)))))
  pss_nil)
  (pss_one (ps_ret (pe_tup (pa_cons (pv 1) (pa_cons (pv 2) pa_nil)))))))), ?_⟩
    clear G__law_read_lens
    rw [st__law_read]
    try dsimp only [cxOf]
    walk_at "g"
    refine ⟨l, 0, rfl, by omega, hl, by rw [List.drop_zero]; exact hc, ?_⟩
    rw [List.drop_zero]
    have hsf := rdLn_suf (n + 1) l
    unfold readL at q
    cases hin : rdLn (n + 1) l with
    | bad r =>
      rw [hin] at q
      intro H1 t s1 ht
      walk_at "g"
      refine ⟨t, _, rfl, ht, rfl, ?_⟩
      walk_at "g"
      refine Gx.newT (by simp) (fun t5 H5 E5 => ?_)
      exact q H5 t5 (s1.trans E5.same) (SqT.of E5.at_)
    | ok p r =>
      rw [hin] at q hsf
      have hlen := Suf.len hsf
      intro H1 t v s1 ht dv
      obtain ⟨va, rfl⟩ := ln_ref dv
      walk_at "g"
      refine ⟨t, _, rfl, ht, rfl, ?_⟩
      walk_at "g"
      cases r with
      | nil =>
        refine Gx.iteD (fun h => by simp at h) (fun h => ?_)
        walk_at "g"
        refine Gx.newT (by simp) (fun t5 H5 E5 => ?_)
        exact q H5 t5 (.ref va) (s1.trans E5.same) (SqT.of E5.at_) (Gx.dp_same E5.same _ _ dv)
      | cons c r =>
        rw [List.length_cons] at hlen
        refine Gx.iteD (fun h => ?_) (fun h => absurd (by rw [List.length_cons]; omega) h)
        walk_at "g"
        refine Gx.newT (by simp) (fun t5 H5 E5 => ?_)
        exact q H5 t5 (s1.trans E5.same) (SqT.of E5.at_)
end
end K13
namespace K13
open PySem PySem.Spec PyProof.Rows L2
local macro_rules | `(tactic| walk_at "con") => `(tactic| first | with_reducible refine Gx.conE K13.ks0 ?_ | with_reducible refine Gx.conE K13.ks1 ?_ | with_reducible refine Gx.conE K13.ks2 ?_ | with_reducible refine Gx.conE K13.ks3 ?_ | with_reducible refine Gx.conE K13.ks4 ?_ | with_reducible refine Gx.conE K13.ks5 ?_ | with_reducible refine Gx.conE K13.ks6 ?_ | with_reducible refine Gx.conE K13.ks7 ?_ | with_reducible refine Gx.conE K13.ks8 ?_ | with_reducible refine Gx.conE K13.ks9 ?_ | with_reducible refine Gx.conE K13.ks10 ?_ | with_reducible refine Gx.conE K13.ks11 ?_ | with_reducible refine Gx.conE K13.ks12 ?_ | with_reducible refine Gx.conE K13.ks13 ?_ | with_reducible refine Gx.conE K13.ks14 ?_ | with_reducible refine Gx.conE K13.ks15 ?_ | with_reducible refine Gx.conE K13.ks16 ?_ | with_reducible refine Gx.conE K13.ks17 ?_ | with_reducible refine Gx.conE K13.ks18 ?_ | with_reducible refine Gx.conE K13.ks19 ?_ | with_reducible refine Gx.conE K13.ks20 ?_ | with_reducible refine Gx.conE K13.ks21 ?_ | with_reducible refine Gx.conE K13.ks22 ?_ | with_reducible refine Gx.conE K13.ks23 ?_ | with_reducible refine Gx.conE K13.ks24 ?_ | with_reducible refine Gx.conE K13.ks25 ?_ | with_reducible refine Gx.conE K13.ks26 ?_ | with_reducible refine Gx.conE K13.ks27 ?_ | with_reducible refine Gx.conE K13.ks28 ?_ | with_reducible refine Gx.conE K13.ks29 ?_ | with_reducible refine Gx.conE K13.ks30 ?_ | with_reducible refine Gx.conE K13.ks31 ?_ | with_reducible refine Gx.conE K13.ks32 ?_ | with_reducible refine Gx.conE K13.ks33 ?_ | with_reducible refine Gx.conE K13.ks34 ?_ | with_reducible refine Gx.conE K13.ks35 ?_ | with_reducible refine Gx.conE K13.ks36 ?_ | with_reducible refine Gx.conE K13.ks37 ?_ | with_reducible refine Gx.conE K13.ks38 ?_ | with_reducible refine Gx.conE K13.ks39 ?_ | with_reducible refine Gx.conE K13.ks40 ?_ | with_reducible refine Gx.conE K13.ks41 ?_ | with_reducible refine Gx.conE K13.ks42 ?_ | with_reducible refine Gx.conE K13.ks43 ?_ | with_reducible refine Gx.conE K13.ks44 ?_ | with_reducible refine Gx.conE K13.ks45 ?_ | with_reducible refine Gx.conE K13.ks46 ?_ | with_reducible refine Gx.conE K13.ks47 ?_ | with_reducible refine Gx.conE K13.ks48 ?_ | with_reducible refine Gx.conE K13.ks49 ?_ | with_reducible refine Gx.conE K13.ks50 ?_ | with_reducible refine Gx.conE K13.ks51 ?_ | with_reducible refine Gx.conE K13.ks52 ?_ | with_reducible refine Gx.conE K13.ks53 ?_ | with_reducible refine Gx.conE K13.ks54 ?_ | with_reducible refine Gx.conE K13.ks55 ?_ | with_reducible refine Gx.conE K13.ks56 ?_ | with_reducible refine Gx.conE K13.ks57 ?_ | with_reducible refine Gx.conE K13.ks58 ?_ | with_reducible refine Gx.conE K13.ks59 ?_ | with_reducible refine Gx.conE K13.ks60 ?_ | with_reducible refine Gx.conE K13.ks61 ?_ | with_reducible refine Gx.conE K13.ks62 ?_ | with_reducible refine Gx.conE K13.ks63 ?_)
section
variable {P : Program} {w : World} {K : PySem.W.Frag} {mg : Str → Option Value} {base : Heap}
def sp_spoilt (K : PySem.W.Frag) : Sp := fun vs H Q _ => ∃ (b : Addr) (xs : List Int) (l : List Nat) (i : Int), vs = [.str (Gx.mkS l), .ref b, .int i] ∧ SqL K H b (xs.map V.int) ∧ 0 < xs.length ∧ 0 < l.length ∧ l.length ≤ 5000 ∧
  ∀ H' p (ts : List (List Nat)), Same H H' → H' p = some (.lst ((ts.map Gx.mkS).map V.str)) → ts.length = 9 → (∀ t ∈ ts, NearL l t) → Q (.ref p) H'
theorem G__law_spoilt (T : Txt K mg w) : FnOk P w K mg base CX0 2 T.f__law_spoilt T.fd__law_spoilt ["text", "numbers", "first"] (sp_spoilt K) := by
  have G__law_pick := G__law_pick (P := P) (w := w) (base := base) T
  refine T.F__law_spoilt.ok sc__law_spoilt (fun vs H Q E h => ?_) (fun cdv A outer s H vs Q E hr h => ?_)
  · obtain ⟨b, xs, l, i, rfl, _⟩ := h
    rfl
  · obtain ⟨b, xs, l, i, rfl, hX, hx, h0, hl, q⟩ := h
    refine ⟨_, ((pss_cons (ps_set (i := 3) sc__law_spoilt.nd rfl (Or.inl rfl) (pe_ix ix_str pe_str (pe_call G__law_pick (hr.mono (by first | decide | omega)) (by rfl) T.g__law_pick T.F__law_pick.kp T.b__law_pick .nil pass0 (pa_cons (pv 1) (pa_cons (pv 2) (pa_cons pe_int pa_nil)))) (fun _ _ => rfl)))
  (pss_cons (ps_set (i := 4) sc__law_spoilt.nd rfl (Or.inl rfl) (pe_op op_mod (pe_callTy Gx.cr_int1 (by rfl) T.z_int bt_int (pa_cons (pe_op op_add (pe_op op_mul pe_int (pe_call G__law_pick (hr.mono (by first | decide | omega)) (by rfl) T.g__law_pick T.F__law_pick.kp T.b__law_pick .nil pass0 (pa_cons (pv 1) (pa_cons (pe_op op_add (pv 2) pe_int) (pa_cons pe_int pa_nil))))) (pe_call G__law_pick (hr.mono (by first | decide | omega)) (by rfl) T.g__law_pick T.F__law_pick.kp T.b__law_pick .nil pass0 (pa_cons (pv 1) (pa_cons (pe_op op_add (pv 2) pe_int) (pa_cons pe_int pa_nil))))) pa_nil)) (pe_callB Gx.cr_lenS (by rfl) T.z_len bt_len (pa_cons (pv 0) pa_nil))))
  (pss_cons (ps_set (i := 5) sc__law_spoilt.nd rfl (Or.inl rfl) (pe_lst (pa_cons (pe_slice sl_str (pv 0) po_none (po_some (pv 4))) (pa_cons (pe_op Gx.op_addS (pe_op Gx.op_addS (pe_slice sl_str (pv 0) po_none (po_some (pv 4))) (pv 3)) (pe_slice sl_str (pv 0) (po_some (pe_op op_add (pv 4) pe_int)) po_none)) (pa_cons (pe_op Gx.op_addS (pe_op Gx.op_addS (pe_slice sl_str (pv 0) po_none (po_some (pv 4))) (pv 3)) (pe_slice sl_str (pv 0) (po_some (pv 4)) po_none)) (pa_cons (pe_op Gx.op_addS (pe_slice sl_str (pv 0) po_none (po_some (pv 4))) (pe_slice sl_str (pv 0) (po_some (pe_op op_add (pv 4) pe_int)) po_none)) pa_nil))))))
  (pss_cons (ps_expr (pe_bm PySem.F.plainAttrs_list PySem.F.slot_list_append PySem.F.type_list_append mt_append (pv 5) (pa_cons (pe_op Gx.op_addS (pe_op Gx.op_addS (pe_op Gx.op_addS (pe_slice sl_str (pv 0) po_none (po_some (pv 4))) (pe_slice sl_str (pv 0) (po_some (pe_op op_add (pv 4) pe_int)) (po_some (pe_op op_add (pv 4) pe_int)))) (pe_slice sl_str (pv 0) (po_some (pv 4)) (po_some (pe_op op_add (pv 4) pe_int)))) (pe_slice sl_str (pv 0) (po_some (pe_op op_add (pv 4) pe_int)) po_none)) pa_nil)))
  (pss_cons (ps_set (i := 5) sc__law_spoilt.nd rfl (Or.inl rfl) (pe_op op_cat (pv 5) (pe_lst (pa_cons (pe_op Gx.op_addS (pe_slice sl_str (pv 0) po_none (po_some (pe_op op_add (pv 4) pe_int))) (pe_slice sl_str (pv 0) (po_some (pv 4)) po_none)) (pa_cons (pe_op Gx.op_addS (pe_op Gx.op_addS (pe_slice sl_str (pv 0) po_none (po_some (pv 4))) pe_str) (pe_slice sl_str (pv 0) (po_some (pv 4)) po_none)) (pa_cons (pe_op Gx.op_addS (pe_op Gx.op_addS (pe_slice sl_str (pv 0) po_none (po_some (pv 4))) pe_str) (pe_slice sl_str (pv 0) (po_some (pv 4)) po_none)) pa_nil))))))
  (pss_one (ps_ret (pe_op op_cat (pv 5) (pe_lst (pa_cons (pe_op Gx.op_addS (pv 0) (pv 3)) pa_nil))))))))))), ?_⟩
    clear G__law_pick
    rw [st__law_spoilt]
    try dsimp only [cxOf]
    walk_at "g"
    refine ⟨b, xs, _, _, rfl, hX, hx, by omega, ?_⟩
    have hc0 := pick_0 xs i (m := 31) (by omega)
    have hc1 := pick_lt xs i (m := 31) (by omega)
    generalize pick xs i 31 = cv at *
    walk_at "g"
    generalize List.getD _ cv.toNat 0 = c
    refine ⟨b, xs, _, _, rfl, hX, hx, by omega, ?_⟩
    have hu0 := pick_0 xs (i + 1) (m := 60) (by omega)
    have hu1 := pick_lt xs (i + 1) (m := 60) (by omega)
    generalize pick xs (i + 1) 60 = u1 at *
    walk_at "g"
    refine ⟨b, xs, _, _, rfl, hX, hx, by omega, ?_⟩
    have hv0 := pick_0 xs (i + 2) (m := 60) (by omega)
    have hv1 := pick_lt xs (i + 2) (m := 60) (by omega)
    generalize pick xs (i + 2) 60 = u2 at *
    walk_at "g"
    obtain ⟨A, hA, hAl⟩ : ∃ A : Nat, (60 * u1 + u2) % (l.length : Int) = (A : Int) ∧ A < l.length := by
      have h1 := Int.emod_nonneg (60 * u1 + u2) (b := (l.length : Int)) (by omega)
      have h2 := Int.emod_lt_of_pos (60 * u1 + u2) (b := (l.length : Int)) (by omega)
      exact ⟨((60 * u1 + u2) % (l.length : Int)).toNat, by omega, by omega⟩
    rw [hA, Int.toNat_natCast]
    have a1 : ((A : Int) + 1).toNat = A + 1 := by omega
    have a2 : ((A : Int) + 2).toNat = A + 2 := by omega
    walk_at "g"
    refine Gx.newL (by simp) (fun p1 H1 E1 => ?_)
    have e1 := E1.at_
    walk_at "g"
    have k1 : (l.take (A + 2)).drop (A + 1) = (l.drop (A + 1)).take 1 := by rw [List.drop_take]; congr 1; omega
    have k2 : (l.take (A + 1)).drop A = (l.drop A).take 1 := by rw [List.drop_take]; congr 1; omega
    simp only [Int.toNat_natCast, a1, a2, k1, k2] at e1 ⊢
    refine Gx.app e1 (Gx.lineL (by simp)) ?_
    have e2 := upd_same (H := H1) (a := p1) (o := .lst ([V.str (Gx.mkS (l.take A)), V.str (Gx.mkS (l.take A ++ [c] ++ l.drop (A + 1))), V.str (Gx.mkS (l.take A ++ [c] ++ l.drop A)), V.str (Gx.mkS (l.take A ++ l.drop (A + 1)))] ++ [V.str (Gx.mkS (l.take A ++ (l.drop (A + 1)).take 1 ++ (l.drop A).take 1 ++ l.drop (A + 2)))]))
    have s2 : Same H (upd H1 p1 (.lst ([V.str (Gx.mkS (l.take A)), V.str (Gx.mkS (l.take A ++ [c] ++ l.drop (A + 1))), V.str (Gx.mkS (l.take A ++ [c] ++ l.drop A)), V.str (Gx.mkS (l.take A ++ l.drop (A + 1)))] ++ [V.str (Gx.mkS (l.take A ++ (l.drop (A + 1)).take 1 ++ (l.drop A).take 1 ++ l.drop (A + 2)))]))) := Gx.Same.put E1.same E1.fresh
    generalize upd H1 p1 _ = H2 at e2 s2 ⊢
    clear e1 E1
    walk_at "g"
    refine Gx.newL (by simp) (fun p3 H3 E3 => ?_)
    walk_at "g"
    refine Gx.cat1 (E3.same _ _ e2) E3.at_ (by simp) (fun p4 H4 E4 => ?_)
    walk_at "g"
    refine Gx.newL (by simp) (fun p5 H5 E5 => ?_)
    walk_at "g"
    refine Gx.cat1 (E5.same _ _ E4.at_) E5.at_ (by simp) (fun p6 H6 E6 => ?_)
    refine q H6 p6 (near9 l c A) (s2.trans (E3.same.trans (E4.same.trans (E5.same.trans E6.same)))) ?_ rfl (near_all l c hAl)
    rw [E6.at_]
    simp only [Int.toNat_natCast, a1, a2]
    rfl
end
end K13
namespace K13
open PySem PySem.Spec PyProof.Rows L2
local macro_rules | `(tactic| walk_at "con") => `(tactic| first | with_reducible refine Gx.conE K13.ks0 ?_ | with_reducible refine Gx.conE K13.ks1 ?_ | with_reducible refine Gx.conE K13.ks2 ?_ | with_reducible refine Gx.conE K13.ks3 ?_ | with_reducible refine Gx.conE K13.ks4 ?_ | with_reducible refine Gx.conE K13.ks5 ?_ | with_reducible refine Gx.conE K13.ks6 ?_ | with_reducible refine Gx.conE K13.ks7 ?_ | with_reducible refine Gx.conE K13.ks8 ?_ | with_reducible refine Gx.conE K13.ks9 ?_ | with_reducible refine Gx.conE K13.ks10 ?_ | with_reducible refine Gx.conE K13.ks11 ?_ | with_reducible refine Gx.conE K13.ks12 ?_ | with_reducible refine Gx.conE K13.ks13 ?_ | with_reducible refine Gx.conE K13.ks14 ?_ | with_reducible refine Gx.conE K13.ks15 ?_ | with_reducible refine Gx.conE K13.ks16 ?_ | with_reducible refine Gx.conE K13.ks17 ?_ | with_reducible refine Gx.conE K13.ks18 ?_ | with_reducible refine Gx.conE K13.ks19 ?_ | with_reducible refine Gx.conE K13.ks20 ?_ | with_reducible refine Gx.conE K13.ks21 ?_ | with_reducible refine Gx.conE K13.ks22 ?_ | with_reducible refine Gx.conE K13.ks23 ?_ | with_reducible refine Gx.conE K13.ks24 ?_ | with_reducible refine Gx.conE K13.ks25 ?_ | with_reducible refine Gx.conE K13.ks26 ?_ | with_reducible refine Gx.conE K13.ks27 ?_ | with_reducible refine Gx.conE K13.ks28 ?_ | with_reducible refine Gx.conE K13.ks29 ?_ | with_reducible refine Gx.conE K13.ks30 ?_ | with_reducible refine Gx.conE K13.ks31 ?_ | with_reducible refine Gx.conE K13.ks32 ?_ | with_reducible refine Gx.conE K13.ks33 ?_ | with_reducible refine Gx.conE K13.ks34 ?_ | with_reducible refine Gx.conE K13.ks35 ?_ | with_reducible refine Gx.conE K13.ks36 ?_ | with_reducible refine Gx.conE K13.ks37 ?_ | with_reducible refine Gx.conE K13.ks38 ?_ | with_reducible refine Gx.conE K13.ks39 ?_ | with_reducible refine Gx.conE K13.ks40 ?_ | with_reducible refine Gx.conE K13.ks41 ?_ | with_reducible refine Gx.conE K13.ks42 ?_ | with_reducible refine Gx.conE K13.ks43 ?_ | with_reducible refine Gx.conE K13.ks44 ?_ | with_reducible refine Gx.conE K13.ks45 ?_ | with_reducible refine Gx.conE K13.ks46 ?_ | with_reducible refine Gx.conE K13.ks47 ?_ | with_reducible refine Gx.conE K13.ks48 ?_ | with_reducible refine Gx.conE K13.ks49 ?_ | with_reducible refine Gx.conE K13.ks50 ?_ | with_reducible refine Gx.conE K13.ks51 ?_ | with_reducible refine Gx.conE K13.ks52 ?_ | with_reducible refine Gx.conE K13.ks53 ?_ | with_reducible refine Gx.conE K13.ks54 ?_ | with_reducible refine Gx.conE K13.ks55 ?_ | with_reducible refine Gx.conE K13.ks56 ?_ | with_reducible refine Gx.conE K13.ks57 ?_ | with_reducible refine Gx.conE K13.ks58 ?_ | with_reducible refine Gx.conE K13.ks59 ?_ | with_reducible refine Gx.conE K13.ks60 ?_ | with_reducible refine Gx.conE K13.ks61 ?_ | with_reducible refine Gx.conE K13.ks62 ?_ | with_reducible refine Gx.conE K13.ks63 ?_)
section
variable {P : Program} {w : World} {K : PySem.W.Frag} {mg : Str → Option Value} {base : Heap}
/-! ### calls within an except suite, of defs that raise nothing -/
/-- what a def promises there -/
structure FnW (P : Program) (w : World) (K : PySem.W.Frag) (mg : Str → Option Value) (base : Heap) (k : Nat) (f : Addr) (fd : FuncData) (ps : List Str) (sp : Sp) : Prop where
  len : ∀ vs H Q E, sp vs H Q E → vs.length = ps.length
  run : ∀ (A : Around) (outer : List Env) (s : Shared) (H : Hp) (args : Args) (us : List Value) (vs : List V) (Q : VK) (p : Addr × Obj), L2H.RoomH k A → L2H.PinOk outer H s p → Env0 P w K mg base A outer s H → BindsTo s fd args (ps.zip us) → Vals vs us → sp vs H Q E0 →
    codeAny (model P w) A (.call (.ref f) args) (CR CX0 outer P w H s Q E0) s
theorem okW {x qual : Str} {st : Stmt} {f : Addr} {fd : FuncData} {N ps : List Str} {k : Nat} {sp : Sp} (F : Fun K x qual st f fd) (S : FnScope N ps (defScope st)) (len : ∀ vs H Q E, sp vs H Q E → vs.length = ps.length)
    (hbody : ∀ (cdv : Value) (A : Around) (outer : List Env) (s : Shared) (H : Hp) (vs : List V) (Q : VK) (p : Addr × Obj), L2H.RoomH k (A.deeper (envOfC qual (defScope st) s.heap.objs.size f cdv)) → sp vs H Q E0 →
      ∃ t, PSs (L2H.cxH CX0 P w K mg base N qual (defScope st) f cdv A outer s H E0 p) (defBody st) t ∧ t { nx := fun _ H' => Q .non H', rt := Q } (L2.start N vs) H) : FnW P w K mg base (k + 1) f fd ps sp := by
  obtain ⟨oc, od, kV, doc, pm, an, cdv, ct, osl, rfl, lk, hcd⟩ := F.ex
  refine ⟨len, fun A outer s H args us vs Q p hr hpin e0 hb r hsp => ?_⟩
  have KX : K.In s.heap := e0.mod.kin.keeps fun b o e => (e0.bs b o e).1
  have lim : s.heap.NoLimit := e0.mod.nolimit.keeps fun b o e => (e0.bs b o e).1
  have hkind : ∀ y ∈ ps.zip us, (defScope st).names.lookup y.1 = some .local ∨ ((defScope st).names.lookup y.1 = some .cell ∧ ((cellsFrom (s.heap.objs.size + 1) (defScope st).names []).lookup y.1).isSome = true) := fun ⟨n, v⟩ hy => by
    rcases S.par n (List.of_mem_zip hy).1 with q | q
    · exact .inl q
    · exact .inr ⟨q, PySem.W.cellsFrom_some _ _ _ (.inl q)⟩
  refine codeAny_call_function hr.depth (KX _ _ lk) rfl S.co S.gen rfl (PySem.W.codeRec_of KX hcd) (hb _ _ _ _ ?_)
  refine wpAny_newFunctionEnv_cells S.kind hkind fun env he s1 x => ?_
  subst he
  refine ⟨lim.keeps x.toInCall.keep, codeAny_func ?_⟩
  obtain ⟨t, ht, hq⟩ := hbody cdv A outer s H vs Q p (hr.deeper _) hsp
  have I := L2H.inv_startH (CX := CX0) (qual := qual) (f := f) (cd := cdv) (E := E0) S hpin e0 (len _ _ _ _ hsp) r x
  refine wpAny_mono (ht.run [] s1 (L2.start N vs) H _ I hq) (fun fl s' hs => ?_) fun e s' hs => hs
  cases fl with
  | ret u =>
    obtain ⟨v, σ', H', J, rv, q⟩ := hs
    exact ⟨v, H', J.os, J.bare, J.base, J.hok, rv, q⟩
  | next =>
    obtain ⟨σ', H', J, q⟩ := hs
    exact ⟨.non, H', J.os, J.bare, J.base, J.hok, rfl, q⟩
  | brk =>
    obtain ⟨_, _, _, q⟩ := hs
    exact False.elim q
  | cont =>
    obtain ⟨_, _, _, q⟩ := hs
    exact False.elim q
def tCallW (sp : Sp) (t : TA) : TE := fun σ H Q => t σ H fun vs H1 => sp vs H1 Q E0
theorem callW {sp : Sp} {t : TA} {σ : L2.St} {H : Hp} {Q : VK} (h : t σ H fun vs H1 => sp vs H1 Q E0) : tCallW sp t σ H Q := h
theorem pe_callW {X : Cx} {k : Nat} {f : Addr} {fd : FuncData} {ps : List Str} {sp : Sp} {x : Str} {q pos : Pos} {e : Expr} {es : List Expr} {t : TA} (F : FnW X.prog X.w X.K X.mg X.base k f fd ps sp) (hr : L2H.RoomH k X.A) (hc : ∃ p, p ∈ X.pn) (hg : Gl X x) (hm : X.mg x = some (.ref f)) (hk : PySem.W.keepIn X.K (.ref f) = true) (hb : Binds X.K fd ps [])
    (ha : PA X (e :: es) t) (hdb : (x == ("__debug__" : Str)) = false := by decide) (he : starEach (e :: es) X.env = (false, eval e X.env) :: starEach es X.env := by rfl) (hpl : (backTo pos (starEach es X.env)).any (·.1) = false := by rfl) :
    PE X (.Call (.Name x q) (e :: es) [] pos) (tCallW sp t) := by
  refine ⟨fun pins s σ H Q I h => ?_⟩
  refine wpAny_Call_Name_kw (ld_glob I hg hm ?_ hdb)
  refine PySem.W.callWith_K (h₀ := X.base) I.ok.mod.kin hk (thn (ha.run pos pins s σ H _ I h) fun us s1 ⟨vs, H1, I1, r, q⟩ => ⟨I1.kIn, ?_⟩) he hpl
  obtain ⟨p, hp⟩ := hc
  have hl : us.length = ps.length := by rw [← r.length]; exact F.len _ _ _ _ q
  have b := hb s1 us I1.kIn (by rw [List.append_nil]; exact hl)
  rw [List.append_nil] at b
  have P1 := I1.pin p (List.mem_append_left _ hp)
  have hpin : L2H.PinOk X.stack H1 s1 p := ⟨P1.1, P1.2.1, fun hm => (List.mem_cons.mp (I1.stkSub p.1 hm)).elim P1.2.2.1 P1.2.2.2.1, P1.2.2.2.2⟩
  refine wpAny_call (codeAny_mono (F.run X.A X.stack s1 H1 ⟨us, []⟩ us vs Q p hr hpin I1.env0 b r q) fun r s' hq => ?_)
  cases r with
  | error e => exact False.elim hq
  | ok fl =>
    cases fl with
    | ret u => exact I1.after hq
    | next => exact False.elim hq
    | brk => exact False.elim hq
    | cont => exact False.elim hq
def spKW (K : PySem.W.Frag) : Sp := fun vs H Q _ => ∃ (i : Int), vs = [.int i] ∧ ∀ H' y, Same H H' → Dp K H' y (Gx.kindD (.int i)) → Q y H'
theorem G__law_kindW (T : Txt K mg w) : FnW P w K mg base 1 T.f__law_kind T.fd__law_kind ["value"] (spKW K) := by
  refine okW T.F__law_kind sc__law_kind (fun vs H Q E h => ?_) (fun cdv A outer s H vs Q p hr h => ?_)
  · obtain ⟨i, rfl, _⟩ := h
    rfl
  · obtain ⟨i, rfl, q⟩ := h
    refine ⟨_, (pss_cons (ps_if (pt_cmpR Gx.op_isNG (pv 0) pe_non (nomark _)) (pss_one Gx.ps_no) pss_nil)
      (pss_cons (ps_if (pt_val (pe_callB call_isi (by rfl) T.z_isinstance bt_isinstance (pa_cons (pv 0) (pa_cons (pe_bltn (v := .ty "bool") rfl T.z_bool bt_bool rfl) pa_nil)))) (pss_one Gx.ps_no) pss_nil)
      (pss_cons (ps_if (pt_val (pe_callB call_isi (by rfl) T.z_isinstance bt_isinstance (pa_cons (pv 0) (pa_cons (pe_bltn (v := .ty "int") rfl T.z_int bt_int rfl) pa_nil)))) (pss_one (ps_ret (pe_tup (pa_cons pe_str (pa_cons (pv 0) pa_nil))))) pss_nil)
      (pss_cons Gx.ps_no (pss_cons Gx.ps_no (pss_cons Gx.ps_no (pss_one Gx.ps_no))))))), ?_⟩
    rw [st__law_kind]
    walk_at "g"
    refine ⟨Gx.line (by show 2 ≤ 16777216; decide), fun p np => ?_⟩
    exact q _ _ (Gx.ext1 np).same (.tup (SqT.of upd_same) (.cons (.str _) (.cons (.int _) .nil)))
def sp_sameW (K : PySem.W.Frag) : Sp := fun vs H Q _ => ∃ (i : Int), vs = [.int i, .int i] ∧ ∀ H', Same H H' → Q (.bl true) H'
theorem G__law_sameW (T : Txt K mg w) : FnW P w K mg base 2 T.f__law_same T.fd__law_same ["answer", "due"] (sp_sameW K) := by
  have G__law_kindW := G__law_kindW (P := P) (w := w) (base := base) T
  refine okW T.F__law_same sc__law_same (fun vs H Q E h => ?_) (fun cdv A outer s H vs Q p hr h => ?_)
  · obtain ⟨i, rfl, _⟩ := h
    rfl
  · obtain ⟨i, rfl, q⟩ := h
    have hu : (A.deeper (envOfC "_law_same" (defScope s__law_same) s.heap.objs.size T.f__law_same cdv)).units + 64 < cLine := by have := hr.un; omega
    refine ⟨_, (pss_one (ps_ret (pe_cmpR (op_eqD hu) (pe_callW G__law_kindW hr ⟨p, List.mem_cons_self⟩ (by rfl) T.g__law_kind T.F__law_kind.kp T.b__law_kind (pa_cons (pv 0) pa_nil)) (pe_callW G__law_kindW hr ⟨p, List.mem_cons_self⟩ (by rfl) T.g__law_kind T.F__law_kind.kp T.b__law_kind (pa_cons (pv 1) pa_nil)) (nomark _)))), ?_⟩
    rw [st__law_same]
    walk_at "g"
    refine callW ?_
    walk_at "g"
    refine ⟨i, rfl, fun H1 u s1 du => ?_⟩
    walk_at "g"
    refine callW ?_
    walk_at "g"
    refine ⟨i, rfl, fun H2 v s2 dv => ?_⟩
    refine ⟨_, _, Gx.dp_same s2 _ _ du, dv, Gx.shaped_kind (d := .int i) rfl (by simp [PyData.depth]), Gx.shaped_kind (d := .int i) rfl (by simp [PyData.depth]), ?_⟩
    rw [Gx.eqv_kind (d := .int i) rfl]
    exact q H2 (s1.trans s2)
end
end K13
namespace K13
open PySem PySem.Spec PyProof.Rows L2
local macro_rules | `(tactic| walk_at "con") => `(tactic| first | with_reducible refine Gx.conE K13.ks0 ?_ | with_reducible refine Gx.conE K13.ks1 ?_ | with_reducible refine Gx.conE K13.ks2 ?_ | with_reducible refine Gx.conE K13.ks3 ?_ | with_reducible refine Gx.conE K13.ks4 ?_ | with_reducible refine Gx.conE K13.ks5 ?_ | with_reducible refine Gx.conE K13.ks6 ?_ | with_reducible refine Gx.conE K13.ks7 ?_ | with_reducible refine Gx.conE K13.ks8 ?_ | with_reducible refine Gx.conE K13.ks9 ?_ | with_reducible refine Gx.conE K13.ks10 ?_ | with_reducible refine Gx.conE K13.ks11 ?_ | with_reducible refine Gx.conE K13.ks12 ?_ | with_reducible refine Gx.conE K13.ks13 ?_ | with_reducible refine Gx.conE K13.ks14 ?_ | with_reducible refine Gx.conE K13.ks15 ?_ | with_reducible refine Gx.conE K13.ks16 ?_ | with_reducible refine Gx.conE K13.ks17 ?_ | with_reducible refine Gx.conE K13.ks18 ?_ | with_reducible refine Gx.conE K13.ks19 ?_ | with_reducible refine Gx.conE K13.ks20 ?_ | with_reducible refine Gx.conE K13.ks21 ?_ | with_reducible refine Gx.conE K13.ks22 ?_ | with_reducible refine Gx.conE K13.ks23 ?_ | with_reducible refine Gx.conE K13.ks24 ?_ | with_reducible refine Gx.conE K13.ks25 ?_ | with_reducible refine Gx.conE K13.ks26 ?_ | with_reducible refine Gx.conE K13.ks27 ?_ | with_reducible refine Gx.conE K13.ks28 ?_ | with_reducible refine Gx.conE K13.ks29 ?_ | with_reducible refine Gx.conE K13.ks30 ?_ | with_reducible refine Gx.conE K13.ks31 ?_ | with_reducible refine Gx.conE K13.ks32 ?_ | with_reducible refine Gx.conE K13.ks33 ?_ | with_reducible refine Gx.conE K13.ks34 ?_ | with_reducible refine Gx.conE K13.ks35 ?_ | with_reducible refine Gx.conE K13.ks36 ?_ | with_reducible refine Gx.conE K13.ks37 ?_ | with_reducible refine Gx.conE K13.ks38 ?_ | with_reducible refine Gx.conE K13.ks39 ?_ | with_reducible refine Gx.conE K13.ks40 ?_ | with_reducible refine Gx.conE K13.ks41 ?_ | with_reducible refine Gx.conE K13.ks42 ?_ | with_reducible refine Gx.conE K13.ks43 ?_ | with_reducible refine Gx.conE K13.ks44 ?_ | with_reducible refine Gx.conE K13.ks45 ?_ | with_reducible refine Gx.conE K13.ks46 ?_ | with_reducible refine Gx.conE K13.ks47 ?_ | with_reducible refine Gx.conE K13.ks48 ?_ | with_reducible refine Gx.conE K13.ks49 ?_ | with_reducible refine Gx.conE K13.ks50 ?_ | with_reducible refine Gx.conE K13.ks51 ?_ | with_reducible refine Gx.conE K13.ks52 ?_ | with_reducible refine Gx.conE K13.ks53 ?_ | with_reducible refine Gx.conE K13.ks54 ?_ | with_reducible refine Gx.conE K13.ks55 ?_ | with_reducible refine Gx.conE K13.ks56 ?_ | with_reducible refine Gx.conE K13.ks57 ?_ | with_reducible refine Gx.conE K13.ks58 ?_ | with_reducible refine Gx.conE K13.ks59 ?_ | with_reducible refine Gx.conE K13.ks60 ?_ | with_reducible refine Gx.conE K13.ks61 ?_ | with_reducible refine Gx.conE K13.ks62 ?_ | with_reducible refine Gx.conE K13.ks63 ?_)
section
variable {P : Program} {w : World} {K : PySem.W.Frag} {mg : Str → Option Value} {base : Heap}
/-! ### the texts and the trees can be told -/
theorem Sg.cp {l : List Nat} (h : Sg l) : Gx.Cp l := fun c hc => by
  have := h c hc
  unfold sgs at this
  simp only [List.mem_cons, List.not_mem_nil, or_false] at this
  omega
theorem cp_cons {c : Nat} {l : List Nat} (h : c < 1114112) (g : Gx.Cp l) : Gx.Cp (c :: l) := fun d hd => by
  rcases List.mem_cons.mp hd with rfl | hd
  · exact h
  · exact g d hd
theorem cp_one {c : Nat} (h : c < 1114112) : Gx.Cp [c] := cp_cons h fun _ z => nomatch z
theorem cp_brk {t : List Nat} (h : Gx.Cp t) : ∀ k, Gx.Cp (brk k t)
  | 0 => h
  | k + 1 => cp_cons (by decide) ((cp_brk h k).app (cp_one (by decide)))
theorem LT.cp {loose : Bool} {c : Nat} {p : Pat} {t : List Nat} (h : LT loose c p t) : p.sg → Gx.Cp t := by
  induction h with
  | word k => exact fun hs => cp_brk (cp_cons (by decide) ((Sg.cp hs).app (cp_one (by decide)))) _
  | one k => exact fun hs => cp_brk (cp_cons (by decide) ((Sg.cp hs).app (cp_one (by decide)))) _
  | star k _ ih => exact fun hs => cp_brk ((ih hs).app (cp_one (by decide))) _
  | seq k _ _ ih1 ih2 => exact fun hs => cp_brk ((ih1 hs.1).app (ih2 hs.2)) _
  | alt k _ _ ih1 ih2 => exact fun hs => cp_brk ((ih1 hs.1).app (cp_cons (by decide) (ih2 hs.2))) _
theorem cp_lit : ∀ w ∈ opL, Gx.Cp w := by
  have : ∀ w ∈ opL, ∀ c ∈ w, c < 1114112 := by decide
  exact this
theorem cp_two (k : Nat) : Gx.Cp (twoO k) := by
  match k with
  | 0 => exact cp_lit _ (by decide)
  | 1 => exact cp_lit _ (by decide)
  | 2 => exact cp_lit _ (by decide)
  | _ + 3 => exact cp_lit (twoO 3) (by decide)
theorem LLT.cp {loose : Bool} {t : Ln} {u : List Nat} (h : LLT loose t u) : t.sg → Gx.Cp u := by
  have e : Gx.Cp [125] := cp_one (by decide)
  induction h with
  | copy h => exact fun hs => (cp_lit copyO (by decide)).app ((h.cp hs).app e)
  | swap h => exact fun hs => (cp_lit swapO (by decide)).app ((h.cp hs.1).app (cp_cons (by decide) ((Sg.cp hs.2).app e)))
  | hide h => exact fun hs => (cp_lit hideO (by decide)).app ((h.cp hs.1).app (cp_cons (by decide) ((Sg.cp hs.2.1).app (cp_cons (by decide) ((Sg.cp hs.2.2).app e)))))
  | again _ ih => exact fun hs => (cp_lit againO (by decide)).app ((ih hs).app (cp_one (by decide)))
  | two _ _ ih1 ih2 => exact fun hs => (cp_two _).app ((ih1 hs.1).app (cp_cons (by decide) ((ih2 hs.2).app (cp_one (by decide)))))
theorem Pat.okD : ∀ p : Pat, p.sg → Gx.okD (patD p) = true
  | .word l, h => by
    have h1 : PyData.strOk (Gx.mkS wordS) = true := by decide +kernel
    have h2 := Sg.ok h
    simp [patD, Gx.okD, Gx.okDs, h1, h2]
  | .one l, h => by
    have h1 : PyData.strOk (Gx.mkS oneS) = true := by decide +kernel
    have h2 := Sg.ok h
    simp [patD, Gx.okD, Gx.okDs, h1, h2]
  | .star p, h => by
    have h1 : PyData.strOk (Gx.mkS starS) = true := by decide +kernel
    have h2 := Pat.okD p h
    simp [patD, Gx.okD, Gx.okDs, h1, h2]
  | .two b p q, h => by
    have h1 := kind_ok b
    have h2 := Pat.okD p h.1
    have h3 := Pat.okD q h.2
    simp [patD, Gx.okD, Gx.okDs, h1, h2, h3]
theorem Ln.okD : ∀ t : Ln, t.sg → Gx.okD (lnD t) = true
  | .copy p, h => by
    have h1 : PyData.strOk (Gx.mkS copyS) = true := by decide +kernel
    have h2 := Pat.okD p h
    simp [lnD, Gx.okD, Gx.okDs, h1, h2]
  | .swap p to, h => by
    have h1 : PyData.strOk (Gx.mkS swapS) = true := by decide +kernel
    have h2 := Pat.okD p h.1
    have h3 := Sg.ok h.2
    simp [lnD, Gx.okD, Gx.okDs, h1, h2, h3]
  | .hide p a b, h => by
    have h1 : PyData.strOk (Gx.mkS hideS) = true := by decide +kernel
    have h2 := Pat.okD p h.1
    have h3 := Sg.ok h.2.1
    have h4 := Sg.ok h.2.2
    simp [lnD, Gx.okD, Gx.okDs, h1, h2, h3, h4]
  | .again t, h => by
    have h1 : PyData.strOk (Gx.mkS againS) = true := by decide +kernel
    have h2 := Ln.okD t h
    simp [lnD, Gx.okD, Gx.okDs, h1, h2]
  | .two k t u, h => by
    have h1 := two_ok k
    have h2 := Ln.okD t h.1
    have h3 := Ln.okD u h.2
    simp [lnD, Gx.okD, Gx.okDs, h1, h2, h3]
/-- a lens tree is not deeper than its nodes and its patterns -/
theorem Ln.depth_le : ∀ t : Ln, t.depth ≤ t.nest + t.pd + 1
  | .copy p => by show p.depth + 1 ≤ 0 + p.depth + 1; omega
  | .swap p _ => by show p.depth + 1 ≤ 0 + p.depth + 1; omega
  | .hide p _ _ => by show p.depth + 1 ≤ 0 + p.depth + 1; omega
  | .again t => by have := Ln.depth_le t; show t.depth + 1 ≤ (t.nest + 1) + t.pd + 1; omega
  | .two _ t u => by have := Ln.depth_le t; have := Ln.depth_le u; show max t.depth u.depth + 1 ≤ (max t.nest u.nest + 1) + max t.pd u.pd + 1; omega
theorem LLT.plainL {t : Ln} {u : List Nat} (h : LLT false t u) : u = K13.plainL t := by
  induction h with
  | copy h => rw [h.plain]; rfl
  | swap h => rw [h.plain]; rfl
  | hide h => rw [h.plain]; rfl
  | again _ ih => rw [ih]; rfl
  | two _ _ ih1 ih2 => rw [ih1, ih2]; rfl
end
end K13
namespace K13
open PySem PySem.Spec PyProof.Rows L2
local macro_rules | `(tactic| walk_at "con") => `(tactic| first | with_reducible refine Gx.conE K13.ks0 ?_ | with_reducible refine Gx.conE K13.ks1 ?_ | with_reducible refine Gx.conE K13.ks2 ?_ | with_reducible refine Gx.conE K13.ks3 ?_ | with_reducible refine Gx.conE K13.ks4 ?_ | with_reducible refine Gx.conE K13.ks5 ?_ | with_reducible refine Gx.conE K13.ks6 ?_ | with_reducible refine Gx.conE K13.ks7 ?_ | with_reducible refine Gx.conE K13.ks8 ?_ | with_reducible refine Gx.conE K13.ks9 ?_ | with_reducible refine Gx.conE K13.ks10 ?_ | with_reducible refine Gx.conE K13.ks11 ?_ | with_reducible refine Gx.conE K13.ks12 ?_ | with_reducible refine Gx.conE K13.ks13 ?_ | with_reducible refine Gx.conE K13.ks14 ?_ | with_reducible refine Gx.conE K13.ks15 ?_ | with_reducible refine Gx.conE K13.ks16 ?_ | with_reducible refine Gx.conE K13.ks17 ?_ | with_reducible refine Gx.conE K13.ks18 ?_ | with_reducible refine Gx.conE K13.ks19 ?_ | with_reducible refine Gx.conE K13.ks20 ?_ | with_reducible refine Gx.conE K13.ks21 ?_ | with_reducible refine Gx.conE K13.ks22 ?_ | with_reducible refine Gx.conE K13.ks23 ?_ | with_reducible refine Gx.conE K13.ks24 ?_ | with_reducible refine Gx.conE K13.ks25 ?_ | with_reducible refine Gx.conE K13.ks26 ?_ | with_reducible refine Gx.conE K13.ks27 ?_ | with_reducible refine Gx.conE K13.ks28 ?_ | with_reducible refine Gx.conE K13.ks29 ?_ | with_reducible refine Gx.conE K13.ks30 ?_ | with_reducible refine Gx.conE K13.ks31 ?_ | with_reducible refine Gx.conE K13.ks32 ?_ | with_reducible refine Gx.conE K13.ks33 ?_ | with_reducible refine Gx.conE K13.ks34 ?_ | with_reducible refine Gx.conE K13.ks35 ?_ | with_reducible refine Gx.conE K13.ks36 ?_ | with_reducible refine Gx.conE K13.ks37 ?_ | with_reducible refine Gx.conE K13.ks38 ?_ | with_reducible refine Gx.conE K13.ks39 ?_ | with_reducible refine Gx.conE K13.ks40 ?_ | with_reducible refine Gx.conE K13.ks41 ?_ | with_reducible refine Gx.conE K13.ks42 ?_ | with_reducible refine Gx.conE K13.ks43 ?_ | with_reducible refine Gx.conE K13.ks44 ?_ | with_reducible refine Gx.conE K13.ks45 ?_ | with_reducible refine Gx.conE K13.ks46 ?_ | with_reducible refine Gx.conE K13.ks47 ?_ | with_reducible refine Gx.conE K13.ks48 ?_ | with_reducible refine Gx.conE K13.ks49 ?_ | with_reducible refine Gx.conE K13.ks50 ?_ | with_reducible refine Gx.conE K13.ks51 ?_ | with_reducible refine Gx.conE K13.ks52 ?_ | with_reducible refine Gx.conE K13.ks53 ?_ | with_reducible refine Gx.conE K13.ks54 ?_ | with_reducible refine Gx.conE K13.ks55 ?_ | with_reducible refine Gx.conE K13.ks56 ?_ | with_reducible refine Gx.conE K13.ks57 ?_ | with_reducible refine Gx.conE K13.ks58 ?_ | with_reducible refine Gx.conE K13.ks59 ?_ | with_reducible refine Gx.conE K13.ks60 ?_ | with_reducible refine Gx.conE K13.ks61 ?_ | with_reducible refine Gx.conE K13.ks62 ?_ | with_reducible refine Gx.conE K13.ks63 ?_)
section
variable {P : Program} {w : World} {K : PySem.W.Frag} {mg : Str → Option Value} {base : Heap}
/-- isinstance(e, (C1, C2, ..)), e the exception that the suite holds; it has its own dict -/
def rIsOT (K : PySem.W.Frag) (C a : Addr) (cls : Value) (d : Option Addr) : List V → Hp → VK → Prop := fun xs H Q => ∃ (tp : Addr) (cs : List V) (us : List Value) (b : Bool) (dd : Addr) (fs : List (Str × V)), cls = .ref C ∧ d = some dd ∧ H dd = some (.xd fs) ∧ xs = [.ref a, .ref tp] ∧ H tp = some (.tup cs) ∧ Paired ClsV cs us ∧ PySem.W.kitAny K (.ref C) us = some b ∧ Q (.bl b) H
theorem cr_isOT {X : Cx} {a C : Addr} {cls : Value} {d : Option Addr} {oe : Obj} {pn : List (Addr × Obj)} (c : ExcC X.K C) (hz : Zc cls d oe) (hf : ∃ vs, oe.data = .fields vs) : CallR (X.suite a ((a, oe) :: pn)) (.builtin "isinstance") (rIsOT X.K C a cls d) := by
  intro pins s σ H xs us Q I r h
  obtain ⟨tp, cs, ws, b, dd, fs, ec, ed, hd, rfl, hT, k, e, q⟩ := h
  obtain ⟨u1, u2, rfl, r1, r2⟩ := vals2 r
  cases (show u2 = Value.ref tp from r2)
  cases (show u1 = Value.ref a from r1)
  obtain ⟨od, J, _⟩ := Gx.isO_at hz hf ec ed I hd
  obtain ⟨_, its, rv, o, h1, h2, n, h3⟩ := (show ObjOk X.prog X.w H s.heap tp (.tup cs) from I.hok tp _ hT)
  have e3 := ClsV.all k rv
  subst e3
  obtain ⟨oc, od', dt, sl⟩ := o
  simp only at h2 h3
  subst h2 h3
  exact PySem.W.kia_tup (Gx.kit_exc c) I.kIn J h1 e (fun z => nomatch z) fun tk => ⟨.bl b, H, I.tok tk, rfl, q⟩
def sp_right : Sp := fun vs H Q _ => ∃ (l : List Nat), vs = [.str (Gx.mkS l)] ∧ l.length ≤ 5000 ∧ dep l ≤ 32 ∧ msw l ≤ 27 ∧ ∀ H', Same H H' → Q (.bl true) H'
theorem G__law_reads_right (T : Txt K mg w) : FnOk P w K mg base CX0 140 T.f__law_reads_right T.fd__law_reads_right ["text"] sp_right := by
  have G__law_read := G__law_read (P := P) (w := w) (base := base) T 32
  have G_read_lens := G_read_lens (P := P) (w := w) (base := base) T 32
  have G__law_same := G__law_same (P := P) (w := w) (base := base) T
  have G__law_sameW := G__law_sameW (P := P) (w := w) (base := base) T
  refine T.F__law_reads_right.ok sc__law_reads_right (fun vs H Q E h => ?_) (fun cdv A outer s H vs Q E hr h => ?_)
  · obtain ⟨l, rfl, _⟩ := h
    rfl
  · obtain ⟨l, rfl, hl, hc, hw, q⟩ := h
    have hr2 : Room (4 * 32 + 11) _ := hr.mono (by decide)
    have hrW : L2H.RoomH 2 _ := L2H.roomH_of (hr.mono (by decide : 2 ≤ _))
    refine ⟨_, ((pss_cons (ps_asg (pe_call G__law_read (hr.mono (by first | decide | omega)) (by rfl) T.g__law_read T.F__law_read.kp T.b__law_read .nil pass0 (pa_cons (pv 0) pa_nil)) (pg_tup rfl (pgs_cons (pg_name (i := 1) sc__law_reads_right.nd rfl (Or.inl rfl)) (pgs_cons (pg_name (i := 2) sc__law_reads_right.nd rfl (Or.inl rfl)) pgs_nil))))
  (C8.pss_cut (ps_try_as (i := 4) (tb := (fun W => tAsg (tCallS (spReadL K T.a_BadText 32) (WE W) (tCons (tVar 0) tNil)) (gName 3))) (ts := (fun a cls d => tSeq (tIfS (tOr (tTest (tOp Gx.rNotN (tVar 1) (tC .non))) (tNot (tB (tCB (Gx.rIsO K T.a_BadText a cls d) (tCons (tVar 4) (tCons (tC (.ref T.a_LensError)) tNil)))))) (tRet (tC (.bl false))) tNext) (tSeq (tIfS (tB (tCB (rIsOT K T.a_BadText a cls d) (tCons (tVar 4) (tCons (tTup (tCons (tC (.ref T.a_TooMany)) (tCons (tC (.ref T.a_NotInSource)) (tCons (tC (.ref T.a_NotInView)) (tCons (tC (.ref T.a_NotSound)) tNil))))) tNil)))) (tRet (tC (.bl false))) tNext) (tRet (tCallW (sp_sameW K) (tCons (Gx.tByO T.a_BadText "index" a cls d (tVar 4)) (tCons (tVar 2) tNil))))))) (Wout := fun _ _ _ _ => False) rfl rfl sc__law_reads_right.nd rfl rfl ⟨rfl, by decide, .inl T.g_BadText⟩ takes0 (fun W pn xe tk _ => pss_one (ps_set (i := 3) sc__law_reads_right.nd rfl (Or.inl rfl) (by exact (pe_callS G_read_lens hr2 rfl T.g_read_lens T.F_read_lens.kp T.b_read_lens (fun σ => passAt tk σ) (by exact (pa_cons (pv 0) pa_nil)))))) (fun a oe cls d pn hz hf => pss_cons (ps_if (by exact (PW.pt (pw_or (pt_cmpR Gx.op_notNG (pv 1) pe_non (nomark _)) (pw_or1 (pt_not (pt_val (pe_callB (Gx.cr_isO T.ec_BadText hz hf) (by rfl) T.z_isinstance bt_isinstance (by exact (pa_cons (pv 4) (pa_cons (pe_glob (v := .ref T.a_LensError) rfl T.g_LensError rfl) pa_nil)))))))))) (pss_one (ps_ret pe_bl)) pss_nil) (pss_cons (ps_if (pt_val (pe_callB (cr_isOT T.ec_BadText hz hf) (by rfl) T.z_isinstance bt_isinstance (by exact (pa_cons (pv 4) (pa_cons (pe_tup (pa_cons (pe_glob (v := .ref T.a_TooMany) rfl T.g_TooMany rfl) (pa_cons (pe_glob (v := .ref T.a_NotInSource) rfl T.g_NotInSource rfl) (pa_cons (pe_glob (v := .ref T.a_NotInView) rfl T.g_NotInView rfl) (pa_cons (pe_glob (v := .ref T.a_NotSound) rfl T.g_NotSound rfl) pa_nil))))) pa_nil))))) (pss_one (ps_ret pe_bl)) pss_nil) (pss_one (ps_ret (by exact (pe_callW G__law_sameW ⟨hrW.dp, hrW.un⟩ ⟨(a, oe), List.mem_cons_self⟩ (by rfl) T.g__law_same T.F__law_same.kp T.b__law_same (pa_cons (Gx.pe_byO T.ec_BadText T.on_BadText hz hf (pv 4)) (pa_cons (pv 2) pa_nil)))))))))
  (pss_one (ps_ret (pe_and (pe_cmpR Gx.op_notNG (pv 1) pe_non (nomark _)) (pe_one (pe_call G__law_same (hr.mono (by first | decide | omega)) (by rfl) T.g__law_same T.F__law_same.kp T.b__law_same .nil pass0 (pa_cons (pv 3) (pa_cons (pv 1) pa_nil)))))))))), ?_⟩
    clear G__law_read G_read_lens G__law_same G__law_sameW
    rw [st__law_reads_right]
    try dsimp only [cxOf]
    walk_at "g"
    refine ⟨l, rfl, by omega, hc, ?_⟩
    cases hrd : readL (32 + 1) l with
    | ok p r =>
      obtain ⟨hok, rfl⟩ := readL_ok hrd
      obtain ⟨g1, g2⟩ := rdLn_good _ _ _ _ hok
      intro H1 t v s1 ht hv
      obtain ⟨tv, rfl⟩ := ln_ref hv
      walk_at "g"
      refine ⟨t, _, rfl, ht, rfl, ?_⟩
      walk_at "g"
      refine ⟨fun σ H' => ∃ (u : V), Same H1 H' ∧ Dp K H' u (lnD p) ∧ σ = [some (.str (Gx.mkS l)), some (.ref tv), some (.int ((l.length - ([] : List Nat).length : Nat) : Nat)), some u, none], ?_, ?_⟩
      · show tAsg _ _ _ _ _
        walk_at "g"
        refine ⟨l, rfl, by omega, hc, ?_⟩
        rw [hrd]
        intro H2 u s2 du
        walk_at "g"
        exact ⟨u, s2, du, rfl⟩
      · rintro σ H2 ⟨u, s2, du, rfl⟩
        walk_at "g"
        refine ⟨u, _, lnD p, rfl, du, Gx.dp_same s2 _ _ hv, Ln.okD p g1, by rw [Ln.depD]; omega, fun H3 s3 => ?_⟩
        exact q H3 (s1.trans (s2.trans s3))
    | bad r =>
      intro H1 t s1 ht
      walk_at "g"
      refine ⟨t, _, rfl, ht, rfl, ?_⟩
      walk_at "g"
      refine ⟨fun _ _ => False, ?_, fun σ H2 h => h.elim⟩
      show tAsg _ _ _ _ _
      walk_at "g"
      refine ⟨l, rfl, by omega, hc, ?_⟩
      rw [hrd]
      intro H2 d s2 nd ed
      refine ⟨true, T.em_bt, fun _ x na => ?_, fun z => nomatch z⟩
      walk_at "g"
      refine ⟨_, _, true, d, _, rfl, rfl, ed, rfl, fun u r => r, T.ki_le, ?_⟩
      walk_at "g"
      refine Gx.newT (by simp) (fun tp H3 E3 => ?_)
      have ed3 := E3.same _ _ ed
      walk_at "g"
      refine ⟨tp, _, _, false, d, _, rfl, rfl, ed3, rfl, E3.at_, .cons (.own _) (.cons (.own _) (.cons (.own _) (.cons (.own _) .nil))), kitAny_cons T.ki_tm (fun _ => kitAny_cons T.ki_nis (fun _ => kitAny_cons T.ki_niv (fun _ => kitAny_cons T.ki_ns (fun _ => kitAny_nil) (fun z => nomatch z)) (fun z => nomatch z)) (fun z => nomatch z)) (fun z => nomatch z), ?_⟩
      walk_at "g"
      refine callW ?_
      walk_at "g"
      refine ⟨_, rfl, rfl, rfl, d, _, _, rfl, ed3, rfl, ?_⟩
      walk_at "g"
      refine ⟨_, rfl, fun H4 s4 => ?_⟩
      exact q H4 (s1.trans (s2.trans (E3.same.trans s4)))
end
end K13
namespace K13
open PySem PySem.Spec PyProof.Rows L2
local macro_rules | `(tactic| walk_at "con") => `(tactic| first | with_reducible refine Gx.conE K13.ks0 ?_ | with_reducible refine Gx.conE K13.ks1 ?_ | with_reducible refine Gx.conE K13.ks2 ?_ | with_reducible refine Gx.conE K13.ks3 ?_ | with_reducible refine Gx.conE K13.ks4 ?_ | with_reducible refine Gx.conE K13.ks5 ?_ | with_reducible refine Gx.conE K13.ks6 ?_ | with_reducible refine Gx.conE K13.ks7 ?_ | with_reducible refine Gx.conE K13.ks8 ?_ | with_reducible refine Gx.conE K13.ks9 ?_ | with_reducible refine Gx.conE K13.ks10 ?_ | with_reducible refine Gx.conE K13.ks11 ?_ | with_reducible refine Gx.conE K13.ks12 ?_ | with_reducible refine Gx.conE K13.ks13 ?_ | with_reducible refine Gx.conE K13.ks14 ?_ | with_reducible refine Gx.conE K13.ks15 ?_ | with_reducible refine Gx.conE K13.ks16 ?_ | with_reducible refine Gx.conE K13.ks17 ?_ | with_reducible refine Gx.conE K13.ks18 ?_ | with_reducible refine Gx.conE K13.ks19 ?_ | with_reducible refine Gx.conE K13.ks20 ?_ | with_reducible refine Gx.conE K13.ks21 ?_ | with_reducible refine Gx.conE K13.ks22 ?_ | with_reducible refine Gx.conE K13.ks23 ?_ | with_reducible refine Gx.conE K13.ks24 ?_ | with_reducible refine Gx.conE K13.ks25 ?_ | with_reducible refine Gx.conE K13.ks26 ?_ | with_reducible refine Gx.conE K13.ks27 ?_ | with_reducible refine Gx.conE K13.ks28 ?_ | with_reducible refine Gx.conE K13.ks29 ?_ | with_reducible refine Gx.conE K13.ks30 ?_ | with_reducible refine Gx.conE K13.ks31 ?_ | with_reducible refine Gx.conE K13.ks32 ?_ | with_reducible refine Gx.conE K13.ks33 ?_ | with_reducible refine Gx.conE K13.ks34 ?_ | with_reducible refine Gx.conE K13.ks35 ?_ | with_reducible refine Gx.conE K13.ks36 ?_ | with_reducible refine Gx.conE K13.ks37 ?_ | with_reducible refine Gx.conE K13.ks38 ?_ | with_reducible refine Gx.conE K13.ks39 ?_ | with_reducible refine Gx.conE K13.ks40 ?_ | with_reducible refine Gx.conE K13.ks41 ?_ | with_reducible refine Gx.conE K13.ks42 ?_ | with_reducible refine Gx.conE K13.ks43 ?_ | with_reducible refine Gx.conE K13.ks44 ?_ | with_reducible refine Gx.conE K13.ks45 ?_ | with_reducible refine Gx.conE K13.ks46 ?_ | with_reducible refine Gx.conE K13.ks47 ?_ | with_reducible refine Gx.conE K13.ks48 ?_ | with_reducible refine Gx.conE K13.ks49 ?_ | with_reducible refine Gx.conE K13.ks50 ?_ | with_reducible refine Gx.conE K13.ks51 ?_ | with_reducible refine Gx.conE K13.ks52 ?_ | with_reducible refine Gx.conE K13.ks53 ?_ | with_reducible refine Gx.conE K13.ks54 ?_ | with_reducible refine Gx.conE K13.ks55 ?_ | with_reducible refine Gx.conE K13.ks56 ?_ | with_reducible refine Gx.conE K13.ks57 ?_ | with_reducible refine Gx.conE K13.ks58 ?_ | with_reducible refine Gx.conE K13.ks59 ?_ | with_reducible refine Gx.conE K13.ks60 ?_ | with_reducible refine Gx.conE K13.ks61 ?_ | with_reducible refine Gx.conE K13.ks62 ?_ | with_reducible refine Gx.conE K13.ks63 ?_)
section
variable {P : Program} {w : World} {K : PySem.W.Frag} {mg : Str → Option Value} {base : Heap}
theorem name8 {v : Nat} (h : v < 8) : ∃ w ∈ opL, ([V.str (Gx.mkS copyO), V.str (Gx.mkS hideO), V.str (Gx.mkS swapO), V.str (Gx.mkS (twoO 0)), V.str (Gx.mkS (twoO 1)), V.str (Gx.mkS (twoO 2)), V.str (Gx.mkS (twoO 3)), V.str (Gx.mkS againO)])[v]? = some (V.str (Gx.mkS w)) := by
  match v, h with
  | 0, _ => exact ⟨copyO, by decide, rfl⟩
  | 1, _ => exact ⟨hideO, by decide, rfl⟩
  | 2, _ => exact ⟨swapO, by decide, rfl⟩
  | 3, _ => exact ⟨twoO 0, by decide, rfl⟩
  | 4, _ => exact ⟨twoO 1, by decide, rfl⟩
  | 5, _ => exact ⟨twoO 2, by decide, rfl⟩
  | 6, _ => exact ⟨twoO 3, by decide, rfl⟩
  | 7, _ => exact ⟨againO, by decide, rfl⟩
def sp_other (K : PySem.W.Frag) : Sp := fun vs H Q _ => ∃ (b : Addr) (xs : List Int) (i : Int), vs = [.ref b, .int i] ∧ SqL K H b (xs.map V.int) ∧ 0 < xs.length ∧
  ∀ H' p (ts : List (List Nat)), Same H H' → H' p = some (.lst ((ts.map Gx.mkS).map V.str)) → ts.length ≤ 30 → (∀ t ∈ ts, t.length ≤ 27) → Q (.ref p) H'
set_option maxHeartbeats 4000000 in
theorem G__law_written_otherwise (T : Txt K mg w) : FnOk P w K mg base CX0 3 T.f__law_written_otherwise T.fd__law_written_otherwise ["numbers", "at"] (sp_other K) := by
  have G__law_pick := G__law_pick (P := P) (w := w) (base := base) T
  have G__law_renaming := G__law_renaming (P := P) (w := w) (base := base) T
  refine T.F__law_written_otherwise.ok sc__law_written_otherwise (fun vs H Q E h => ?_) (fun cdv A outer s H vs Q E hr h => ?_)
  · obtain ⟨b, xs, i, rfl, _⟩ := h
    rfl
  · obtain ⟨b, xs, i, rfl, hX, hx, q⟩ := h
    refine ⟨_, ((pss_cons (ps_set (i := 2) sc__law_written_otherwise.nd rfl (Or.inl rfl) (pe_ix ix_list (pe_lst (pa_cons pe_str (pa_cons pe_str (pa_cons pe_str (pa_cons pe_str (pa_cons pe_str (pa_cons pe_str (pa_cons pe_str (pa_cons pe_str pa_nil))))))))) (pe_call G__law_pick (hr.mono (by first | decide | omega)) (by rfl) T.g__law_pick T.F__law_pick.kp T.b__law_pick .nil pass0 (pa_cons (pv 0) (pa_cons (pv 1) (pa_cons pe_int pa_nil)))) (fun _ _ => rfl)))
  (pss_cons (ps_set (i := 3) sc__law_written_otherwise.nd rfl (Or.inl rfl) (pe_slice sl_str (pv 2) po_none (po_some (pe_call G__law_pick (hr.mono (by first | decide | omega)) (by rfl) T.g__law_pick T.F__law_pick.kp T.b__law_pick .nil pass0 (pa_cons (pv 0) (pa_cons (pe_op op_add (pv 1) pe_int) (pa_cons (pe_op op_add (pe_callB Gx.cr_lenS (by rfl) T.z_len bt_len (pa_cons (pv 2) pa_nil)) pe_int) pa_nil)))))))
  (pss_cons (ps_set (i := 4) sc__law_written_otherwise.nd rfl (Or.inl rfl) (pe_ix ix_str pe_str (pe_call G__law_pick (hr.mono (by first | decide | omega)) (by rfl) T.g__law_pick T.F__law_pick.kp T.b__law_pick .nil pass0 (pa_cons (pv 0) (pa_cons (pe_op op_add (pv 1) pe_int) (pa_cons pe_int pa_nil)))) (fun _ _ => rfl)))
  (pss_cons (ps_set (i := 5) sc__law_written_otherwise.nd rfl (Or.inl rfl) (Gx.pe_joinG pe_str (pe_lc (own := [("k", 6)]) (g := (gName 6)) (tt := tYes) (by rfl) sc__law_written_otherwise.nd (pi_range1 rfl T.z_range (pa_cons pe_int pa_nil)) (blkOk_by (N := ["numbers", "at", "name", "half", "char", "word", "k", "to", "spot", "found", "other"]) (sc := defScope s__law_written_otherwise) (by decide +kernel)) (fun _ _ _ _ _ => (pg_name (i := 6) sc__law_written_otherwise.nd rfl (Or.inl rfl))) (fun _ _ _ _ _ => pts_nil) (fun _ _ _ _ _ => (pe_ix ix_str pe_str (pe_call G__law_pick (hr.mono (by first | decide | omega)) (by rfl) T.g__law_pick T.F__law_pick.kp T.b__law_pick .nil pass0 (pa_cons (pv 0) (pa_cons (pe_op op_add (pe_op op_add (pv 1) pe_int) (pv 6)) (pa_cons pe_int pa_nil)))) (fun _ _ => rfl))))))
  (pss_cons (ps_set (i := 7) sc__law_written_otherwise.nd rfl (Or.inl rfl) (pe_call G__law_renaming (hr.mono (by first | decide | omega)) (by rfl) T.g__law_renaming T.F__law_renaming.kp T.b__law_renaming .nil pass0 (pa_cons (pv 0) (pa_cons (pe_op op_add (pv 1) pe_int) pa_nil))))
  (pss_cons (ps_set (i := 8) sc__law_written_otherwise.nd rfl (Or.inl rfl) (pe_call G__law_pick (hr.mono (by first | decide | omega)) (by rfl) T.g__law_pick T.F__law_pick.kp T.b__law_pick .nil pass0 (pa_cons (pv 0) (pa_cons (pe_op op_add (pv 1) pe_int) (pa_cons pe_int pa_nil)))))
  (pss_cons (ps_set (i := 9) sc__law_written_otherwise.nd rfl (Or.inl rfl) (pe_lst (pa_cons (pv 3) (pa_cons (pe_op Gx.op_addS (pv 3) (pv 4)) (pa_cons (pe_op Gx.op_addS (pv 3) pe_str) (pa_cons (pe_op Gx.op_addS (pe_op Gx.op_addS pe_str (pv 3)) (pv 4)) (pa_cons (pe_op Gx.op_addS pe_str (pv 3)) (pa_cons (pe_op Gx.op_addS (pe_op Gx.op_addS pe_str (pv 3)) pe_str) pa_nil))))))))
  (pss_cons (ps_for PassesOwn.never rfl (pi_list (pe_lst (pa_cons (pv 5) (pa_cons (pv 7) (pa_cons (pe_slice sl_str (pv 7) po_none (po_some (pv 8))) (pa_cons (pe_op Gx.op_addS (pv 7) (pe_ix ix_str (pv 7) (pv 8) (fun _ _ => rfl))) (pa_cons (pe_op Gx.op_addS (pe_op Gx.op_addS (pe_slice sl_str (pv 7) po_none (po_some (pv 8))) (pe_ix ix_str (pv 5) pe_int (fun _ _ => rfl))) (pe_slice sl_str (pv 7) (po_some (pe_op op_add (pv 8) pe_int)) po_none)) pa_nil))))))) (pg_name (i := 10) sc__law_written_otherwise.nd rfl (Or.inl rfl))
  (pss_one (ps_expr (pe_bm PySem.F.plainAttrs_list PySem.F.slot_list_append PySem.F.type_list_append mt_append (pv 9) (pa_cons (pe_op Gx.op_addS (pe_op Gx.op_addS pe_str (pv 10)) pe_str) pa_nil)))))
  (pss_cons (ps_set (i := 9) sc__law_written_otherwise.nd rfl (Or.inl rfl) (pe_op op_cat (pv 9) (pe_lst (pa_cons (pe_op Gx.op_addS (pe_op Gx.op_addS pe_str (pv 5)) pe_str) (pa_cons (pe_op Gx.op_addS (pe_op Gx.op_addS (pe_op Gx.op_addS (pe_op Gx.op_addS pe_str (pe_slice sl_str (pv 5) po_none (po_some pe_int))) pe_str) (pe_slice sl_str (pv 5) (po_some (pv 8)) po_none)) pe_str) (pa_cons pe_str pa_nil))))))
  (pss_one (ps_ret (pe_op op_cat (pv 9) (pe_lst (pa_cons pe_str (pa_cons pe_str (pa_cons pe_str (pa_cons pe_str (pa_cons pe_str (pa_cons pe_str (pa_cons pe_str pa_nil))))))))))))))))))))), ?_⟩
    clear G__law_pick G__law_renaming
    rw [st__law_written_otherwise]
    try dsimp only [cxOf]
    walk_at "g"
    refine Gx.newL (by simp) fun p H1 E1 => ?_
    have hX1 := E1.same.seq hX
    walk_at "g"
    refine ⟨b, xs, _, _, rfl, hX1, hx, by omega, ?_⟩
    have hv0 := pick_0 xs i (m := 8) (by omega)
    have hv1 := pick_lt xs i (m := 8) (by omega)
    generalize pick xs i 8 = v at *
    obtain ⟨nm, hnm, hd⟩ := name8 (v := v.toNat) (by omega)
    have hnl := opL_len nm hnm
    refine Gx.ixL (SqL.of E1.at_) (Gx.atI_of (k := v.toNat) (by omega) hd) ?_
    walk_at "g"
    refine ⟨b, xs, _, _, rfl, hX1, hx, by omega, ?_⟩
    have hu0 := pick_0 xs (i + 1) (m := ((nm.length : Int) + 1)) (by omega)
    have hu1 := pick_lt xs (i + 1) (m := ((nm.length : Int) + 1)) (by omega)
    generalize pick xs (i + 1) ((nm.length : Int) + 1) = hfv at *
    walk_at "g"
    refine ⟨b, xs, _, _, rfl, hX1, hx, by omega, ?_⟩
    have hc0 := pick_0 xs (i + 2) (m := 15) (by omega)
    have hc1 := pick_lt xs (i + 2) (m := 15) (by omega)
    generalize pick xs (i + 2) 15 = cv at *
    walk_at "g"
    generalize List.getD _ cv.toNat 0 = c
    have hhl : (nm.take hfv.toNat).length ≤ 6 := by rw [List.length_take]; omega
    generalize nm.take hfv.toNat = half at *
    refine ⟨5, rfl, by decide, by decide, fun D nD => lc_range (lo := 0) (n := 5) (fun j H' => Same H1 H' ∧ ∃ ks : List Nat, H' D = some (.lst (((ks.map fun k => [sg k]).map Gx.mkS).map V.str)) ∧ ks.length = j ∧ ∀ k ∈ ks, k < 5) ⟨Gx.Same.put (Same.refl H1) nD, [], upd_same, rfl, fun k hk => (by cases hk)⟩ ?_ ?_⟩
    · rintro j H9 hj ⟨s9, ks, e9, kl, kok⟩
      walk_at "g"
      refine ⟨rfl, ?_⟩
      walk_at "g"
      refine ⟨b, xs, _, _, rfl, s9.seq hX1, hx, by omega, ?_⟩
      have hu0 := pick_0 xs (i + 3 + (0 + (j : Int))) (m := 5) (by omega)
      have hu1 := pick_lt xs (i + 3 + (0 + (j : Int))) (m := 5) (by omega)
      walk_at "g"
      refine ⟨_, e9, Gx.lineL (by rw [List.length_map, List.length_map, List.length_map]; omega), Gx.Same.put s9 nD, ks ++ [(pick xs (i + 3 + (0 + (j : Int))) 5).toNat], ?_, by rw [List.length_append, kl]; rfl, fun t ht => ?_⟩
      · rw [upd_same, List.map_append, List.map_append, List.map_append]
        rfl
      · rcases List.mem_append.mp ht with h | h
        · exact kok t h
        · cases List.mem_singleton.mp h
          omega
    rintro H9 ⟨s9, ks, e9, kl, kok⟩
    walk_at "g"
    refine Gx.join0 (SqL.of e9) (by rw [flat_one1, List.length_map]; omega) ?_
    rw [flat_one1]
    have hwl : (ks.map sg).length = 5 := by rw [List.length_map]; exact kl
    generalize ks.map sg = word at *
    have hX9 := s9.seq hX1
    clear e9 kok kl
    walk_at "g"
    refine ⟨b, xs, _, rfl, hX9, hx, fun to _ _ htl => ?_⟩
    walk_at "g"
    refine ⟨b, xs, _, _, rfl, hX9, hx, by omega, ?_⟩
    have hs0 := pick_0 xs (i + 13) (m := 5) (by omega)
    have hs1 := pick_lt xs (i + 13) (m := 5) (by omega)
    generalize pick xs (i + 13) 5 = spot at *
    walk_at "g"
    refine Gx.newL (by simp) (fun F H10 E10 => ?_)
    have e10 := E10.at_
    walk_at "g"
    refine Gx.newL (by simp) (fun M2 H11 E11 => ?_)
    have e11 := E11.at_
    have hw : ∀ n, (word.take n).length ≤ 5 ∧ (word.drop n).length ≤ 5 ∧ (to.take n).length ≤ 5 ∧ (to.drop n).length ≤ 5 := fun n => by
      rw [List.length_take, List.length_drop, List.length_take, List.length_drop]
      omega
    obtain ⟨acc0, a1, a2, a3⟩ : ∃ acc : List (List Nat), H11 F = some (.lst ((acc.map Gx.mkS).map V.str)) ∧ acc.length = 6 ∧ ∀ t ∈ acc, t.length ≤ 27 := by
      refine ⟨[_, _, _, _, _, _], E11.same _ _ e10, rfl, fun t ht => ?_⟩
      simp only [List.mem_cons, List.not_mem_nil, or_false] at ht
      rcases ht with rfl | rfl | rfl | rfl | rfl | rfl <;> (first | omega | (simp only [List.length_append, List.length_cons, List.length_nil]; omega))
    obtain ⟨os, b1, b2, b3⟩ : ∃ os : List (List Nat), H11 M2 = some (.lst ((os.map Gx.mkS).map V.str)) ∧ os.length = 5 ∧ ∀ t ∈ os, t.length ≤ 12 := by
      refine ⟨[_, _, _, _, _], e11, rfl, fun t ht => ?_⟩
      have h1 := hw spot.toNat
      have h2 := hw (spot + 1).toNat
      simp only [List.mem_cons, List.not_mem_nil, or_false] at ht
      rcases ht with rfl | rfl | rfl | rfl | rfl <;> (first | omega | (simp only [List.length_append, List.length_cons, List.length_nil]; omega))
    have nF : H F = none := fresh_of (E1.same.trans s9) E10.fresh
    have nFM : M2 ≠ F := fun e => by have := E11.fresh; rw [e, E10.at_] at this; cases this
    have s11 : Same H H11 := E1.same.trans (s9.trans (E10.same.trans E11.same))
    clear e10 e11 E10 E11
    walk_at "g"
    refine ⟨⟨_, SqL.of b1⟩, for_list (K := K) (a := M2) (xs := (os.map Gx.mkS).map V.str) (fun j σ H' => Same H H' ∧ H' M2 = some (.lst ((os.map Gx.mkS).map V.str)) ∧ (∃ acc : List (List Nat), H' F = some (.lst ((acc.map Gx.mkS).map V.str)) ∧ acc.length = 6 + j ∧ ∀ t ∈ acc, t.length ≤ 27) ∧ ∃ y, σ = [some (.ref b), some (.int i), some (.str (Gx.mkS nm)), some (.str (Gx.mkS half)), some (.str (Gx.mkS [c])), some (.str (Gx.mkS word)), none, some (.str (Gx.mkS to)), some (.int spot), some (.ref F), y])
      ⟨s11, b1, ⟨acc0, a1, a2, a3⟩, _, rfl⟩ (fun j σ H' _ z => SqL.of z.2.1) ?_ ?_⟩
    · rintro j z σ H' hj ⟨s', m', ⟨acc, c1, c2, c3⟩, y, rfl⟩
      rw [List.getElem?_map, List.getElem?_map] at hj
      obtain ⟨zs, hz, rfl⟩ := Option.map_eq_some_iff.mp hj
      obtain ⟨o, ho, rfl⟩ := Option.map_eq_some_iff.mp hz
      have hol := b3 o (List.mem_of_getElem? ho)
      have hj5 : j < 5 := by
        have := (List.getElem?_eq_some_iff.mp ho).1
        omega
      walk_at "g"
      refine ⟨Gx.Same.put s' nF, by rw [upd_ne nFM]; exact m', ⟨acc ++ [[115, 119, 97, 112, 123, 91, 97, 98, 93, 42, 44] ++ o ++ [125]], ?_, ?_, fun t ht => ?_⟩, _, rfl⟩
      · rw [upd_same]
        simp only [List.map_append, List.map_cons, List.map_nil]
      · rw [List.length_append, List.length_singleton]; omega
      · rcases List.mem_append.mp ht with ht | ht
        · exact c3 t ht
        · rw [List.mem_singleton.mp ht]
          simp only [List.length_append, List.length_cons, List.length_nil]
          omega
    · rintro σ H' ⟨s', m', ⟨acc, c1, c2, c3⟩, y, rfl⟩
      rw [List.length_map, List.length_map] at c2
      walk_at "g"
      refine Gx.newL (by simp) (fun p3 H12 E12 => ?_)
      have h2 := hw (2 : Int).toNat
      have h3 := hw spot.toNat
      obtain ⟨ns, m1, m2, m3⟩ : ∃ ns : List (List Nat), H12 p3 = some (.lst ((ns.map Gx.mkS).map V.str)) ∧ ns.length = 3 ∧ ∀ t ∈ ns, t.length ≤ 27 := by
        refine ⟨[_, _, _], E12.at_, rfl, fun t ht => ?_⟩
        simp only [List.mem_cons, List.not_mem_nil, or_false] at ht
        rcases ht with rfl | rfl | rfl <;> (first | omega | (simp only [List.length_append, List.length_cons, List.length_nil]; omega))
      have s12 := s'.trans E12.same
      have c1' := E12.same _ _ c1
      clear E12
      walk_at "g"
      refine Gx.cat1 c1' m1 (by simp only [List.length_map]; omega) (fun p4 H13 E13 => ?_)
      have e13 := E13.at_
      walk_at "g"
      refine Gx.newL (by simp) (fun p5 H14 E14 => ?_)
      obtain ⟨ms, r1, r2, r3⟩ : ∃ ns : List (List Nat), H14 p5 = some (.lst ((ns.map Gx.mkS).map V.str)) ∧ ns.length = 7 ∧ ∀ t ∈ ns, t.length ≤ 27 := by
        refine ⟨[_, _, _, _, _, _, _], E14.at_, rfl, fun t ht => ?_⟩
        simp only [List.mem_cons, List.not_mem_nil, or_false] at ht
        rcases ht with rfl | rfl | rfl | rfl | rfl | rfl | rfl <;> (first | omega | (simp only [List.length_append, List.length_cons, List.length_nil]; omega))
      walk_at "g"
      refine Gx.cat1 (E14.same _ _ e13) r1 (by simp only [List.length_append, List.length_map]; omega) (fun p6 H15 E15 => ?_)
      refine q H15 p6 (acc ++ ns ++ ms) (s12.trans (E13.same.trans (E14.same.trans E15.same))) ?_ ?_ (fun t ht => ?_)
      · rw [E15.at_]
        simp only [List.map_append]
      · simp only [List.length_append]
        omega
      · rcases List.mem_append.mp ht with ht | ht
        · rcases List.mem_append.mp ht with ht | ht
          · exact c3 t ht
          · exact m3 t ht
        · exact r3 t ht
end
end K13
namespace K13
open PySem PySem.Spec PyProof.Rows L2
local macro_rules | `(tactic| walk_at "con") => `(tactic| first | with_reducible refine Gx.conE K13.ks0 ?_ | with_reducible refine Gx.conE K13.ks1 ?_ | with_reducible refine Gx.conE K13.ks2 ?_ | with_reducible refine Gx.conE K13.ks3 ?_ | with_reducible refine Gx.conE K13.ks4 ?_ | with_reducible refine Gx.conE K13.ks5 ?_ | with_reducible refine Gx.conE K13.ks6 ?_ | with_reducible refine Gx.conE K13.ks7 ?_ | with_reducible refine Gx.conE K13.ks8 ?_ | with_reducible refine Gx.conE K13.ks9 ?_ | with_reducible refine Gx.conE K13.ks10 ?_ | with_reducible refine Gx.conE K13.ks11 ?_ | with_reducible refine Gx.conE K13.ks12 ?_ | with_reducible refine Gx.conE K13.ks13 ?_ | with_reducible refine Gx.conE K13.ks14 ?_ | with_reducible refine Gx.conE K13.ks15 ?_ | with_reducible refine Gx.conE K13.ks16 ?_ | with_reducible refine Gx.conE K13.ks17 ?_ | with_reducible refine Gx.conE K13.ks18 ?_ | with_reducible refine Gx.conE K13.ks19 ?_ | with_reducible refine Gx.conE K13.ks20 ?_ | with_reducible refine Gx.conE K13.ks21 ?_ | with_reducible refine Gx.conE K13.ks22 ?_ | with_reducible refine Gx.conE K13.ks23 ?_ | with_reducible refine Gx.conE K13.ks24 ?_ | with_reducible refine Gx.conE K13.ks25 ?_ | with_reducible refine Gx.conE K13.ks26 ?_ | with_reducible refine Gx.conE K13.ks27 ?_ | with_reducible refine Gx.conE K13.ks28 ?_ | with_reducible refine Gx.conE K13.ks29 ?_ | with_reducible refine Gx.conE K13.ks30 ?_ | with_reducible refine Gx.conE K13.ks31 ?_ | with_reducible refine Gx.conE K13.ks32 ?_ | with_reducible refine Gx.conE K13.ks33 ?_ | with_reducible refine Gx.conE K13.ks34 ?_ | with_reducible refine Gx.conE K13.ks35 ?_ | with_reducible refine Gx.conE K13.ks36 ?_ | with_reducible refine Gx.conE K13.ks37 ?_ | with_reducible refine Gx.conE K13.ks38 ?_ | with_reducible refine Gx.conE K13.ks39 ?_ | with_reducible refine Gx.conE K13.ks40 ?_ | with_reducible refine Gx.conE K13.ks41 ?_ | with_reducible refine Gx.conE K13.ks42 ?_ | with_reducible refine Gx.conE K13.ks43 ?_ | with_reducible refine Gx.conE K13.ks44 ?_ | with_reducible refine Gx.conE K13.ks45 ?_ | with_reducible refine Gx.conE K13.ks46 ?_ | with_reducible refine Gx.conE K13.ks47 ?_ | with_reducible refine Gx.conE K13.ks48 ?_ | with_reducible refine Gx.conE K13.ks49 ?_ | with_reducible refine Gx.conE K13.ks50 ?_ | with_reducible refine Gx.conE K13.ks51 ?_ | with_reducible refine Gx.conE K13.ks52 ?_ | with_reducible refine Gx.conE K13.ks53 ?_ | with_reducible refine Gx.conE K13.ks54 ?_ | with_reducible refine Gx.conE K13.ks55 ?_ | with_reducible refine Gx.conE K13.ks56 ?_ | with_reducible refine Gx.conE K13.ks57 ?_ | with_reducible refine Gx.conE K13.ks58 ?_ | with_reducible refine Gx.conE K13.ks59 ?_ | with_reducible refine Gx.conE K13.ks60 ?_ | with_reducible refine Gx.conE K13.ks61 ?_ | with_reducible refine Gx.conE K13.ks62 ?_ | with_reducible refine Gx.conE K13.ks63 ?_)
section
variable {P : Program} {w : World} {K : PySem.W.Frag} {mg : Str → Option Value} {base : Heap}
def spLaw (K : PySem.W.Frag) : Sp := fun vs H Q _ => ∃ (a : Addr) (ns : List Int), vs = [.ref a] ∧ SqL K H a (ns.map V.int) ∧ ns.length ≤ 63 ∧ ∀ H', Q (.bl true) H'
set_option maxHeartbeats 4000000 in
theorem ok_law (T : Txt K mg w) : FnOk P w K mg base CX0 141 T.f_law T.fd_law ["script"] (spLaw K) := by
  have G__law_stream := G__law_stream (P := P) (w := w) (base := base) T
  have G__law_pick := G__law_pick (P := P) (w := w) (base := base) T
  have G__law_tree := G__law_tree (P := P) (w := w) (base := base) T 3
  have G__law_wrapped := G__law_wrapped (P := P) (w := w) (base := base) T
  have G__law_lens_text := G__law_lens_text (P := P) (w := w) (base := base) T 16
  have G_write_lens := G_write_lens (P := P) (w := w) (base := base) T 3 16
  have G_read_lens := G_read_lens (P := P) (w := w) (base := base) T 32
  have G__law_same := G__law_same (P := P) (w := w) (base := base) T
  have G__law_spoilt := G__law_spoilt (P := P) (w := w) (base := base) T
  have G__law_written_otherwise := G__law_written_otherwise (P := P) (w := w) (base := base) T
  have G__law_reads_right := G__law_reads_right (P := P) (w := w) (base := base) T
  refine T.F_law.ok sc_law (fun vs H Q E h => ?_) (fun cdv A outer s H vs Q E hr h => ?_)
  · obtain ⟨a, ns, rfl, _⟩ := h
    rfl
  · obtain ⟨a, ns, rfl, hS, hlen, q⟩ := h
    refine ⟨_, ((pss_cons (ps_set (i := 1) sc_law.nd rfl (Or.inl rfl) (pe_call G__law_stream (hr.mono (by first | decide | omega)) (by rfl) T.g__law_stream T.F__law_stream.kp T.b__law_stream .nil pass0 (pa_cons (pv 0) (pa_cons pe_int pa_nil))))
  (pss_cons (ps_set (i := 2) sc_law.nd rfl (Or.inl rfl) (pe_call G__law_tree (hr.mono (by first | decide | omega)) (by rfl) T.g__law_tree T.F__law_tree.kp T.b__law_tree .nil pass0 (pa_cons (pv 1) (pa_cons pe_int (pa_cons pe_int pa_nil)))))
  (C8.pss_cut (ps_if (pt_cmpR op_eq (pe_call G__law_pick (hr.mono (by first | decide | omega)) (by rfl) T.g__law_pick T.F__law_pick.kp T.b__law_pick .nil pass0 (pa_cons (pv 1) (pa_cons pe_int (pa_cons pe_int pa_nil)))) pe_int (nomark _))
  (pss_one (ps_set (i := 2) sc_law.nd rfl (Or.inl rfl) (pe_call G__law_wrapped (hr.mono (by first | decide | omega)) (by rfl) T.g__law_wrapped T.F__law_wrapped.kp T.b__law_wrapped .nil pass0 (pa_cons (pv 2) (pa_cons (pv 1) (pa_cons pe_int pa_nil))))))
  pss_nil)
  (pss_cons (ps_set (i := 3) sc_law.nd rfl (Or.inl rfl) (pe_call G__law_lens_text (hr.mono (by first | decide | omega)) (by rfl) T.g__law_lens_text T.F__law_lens_text.kp T.b__law_lens_text .nil pass0 (pa_cons (pv 2) (pa_cons (pe_lst pa_nil) (pa_cons pe_int pa_nil)))))
  (pss_cons (ps_set (i := 4) sc_law.nd rfl (Or.inl rfl) (pe_call G__law_lens_text (hr.mono (by first | decide | omega)) (by rfl) T.g__law_lens_text T.F__law_lens_text.kp T.b__law_lens_text .nil pass0 (pa_cons (pv 2) (pa_cons (pv 1) (pa_cons pe_int pa_nil)))))
  (pss_cons (ps_if (PW.pt (pw_or (pt_not (pt_val (pe_call G__law_same (hr.mono (by first | decide | omega)) (by rfl) T.g__law_same T.F__law_same.kp T.b__law_same .nil pass0 (pa_cons (pe_call G_write_lens (hr.mono (by first | decide | omega)) (by rfl) T.g_write_lens T.F_write_lens.kp T.b_write_lens .nil pass0 (pa_cons (pv 2) pa_nil)) (pa_cons (pv 3) pa_nil))))) (pw_or1 (pt_not (pt_val (pe_call G__law_same (hr.mono (by first | decide | omega)) (by rfl) T.g__law_same T.F__law_same.kp T.b__law_same .nil pass0 (pa_cons (pe_call G_read_lens (hr.mono (by first | decide | omega)) (by rfl) T.g_read_lens T.F_read_lens.kp T.b_read_lens .nil passL (pa_cons (pv 3) pa_nil)) (pa_cons (pv 2) pa_nil))))))))
  (pss_one (ps_ret pe_bl))
  pss_nil)
  (pss_cons (ps_if (PW.pt (pw_or (pt_not (pt_val (pe_call G__law_same (hr.mono (by first | decide | omega)) (by rfl) T.g__law_same T.F__law_same.kp T.b__law_same .nil pass0 (pa_cons (pe_call G_read_lens (hr.mono (by first | decide | omega)) (by rfl) T.g_read_lens T.F_read_lens.kp T.b_read_lens .nil passL (pa_cons (pv 4) pa_nil)) (pa_cons (pv 2) pa_nil))))) (pw_or1 (pt_not (pt_val (pe_call G__law_same (hr.mono (by first | decide | omega)) (by rfl) T.g__law_same T.F__law_same.kp T.b__law_same .nil pass0 (pa_cons (pe_call G_write_lens (hr.mono (by first | decide | omega)) (by rfl) T.g_write_lens T.F_write_lens.kp T.b_write_lens .nil pass0 (pa_cons (pe_call G_read_lens (hr.mono (by first | decide | omega)) (by rfl) T.g_read_lens T.F_read_lens.kp T.b_read_lens .nil passL (pa_cons (pv 4) pa_nil)) pa_nil)) (pa_cons (pv 3) pa_nil))))))))
  (pss_one (ps_ret pe_bl))
  pss_nil)
  (pss_cons (ps_set (i := 5) sc_law.nd rfl (Or.inl rfl) (pe_op op_cat (pe_op op_cat (pe_lst (pa_cons pe_str (pa_cons (pv 3) (pa_cons (pv 4) pa_nil)))) (pe_call G__law_spoilt (hr.mono (by first | decide | omega)) (by rfl) T.g__law_spoilt T.F__law_spoilt.kp T.b__law_spoilt .nil pass0 (pa_cons (pv 3) (pa_cons (pv 1) (pa_cons pe_int pa_nil))))) (pe_call G__law_spoilt (hr.mono (by first | decide | omega)) (by rfl) T.g__law_spoilt T.F__law_spoilt.kp T.b__law_spoilt .nil pass0 (pa_cons (pv 4) (pa_cons (pv 1) (pa_cons pe_int pa_nil))))))
  (pss_cons (ps_for PassesOwn.never rfl (pi_list (pe_op op_cat (pv 5) (pe_call G__law_written_otherwise (hr.mono (by first | decide | omega)) (by rfl) T.g__law_written_otherwise T.F__law_written_otherwise.kp T.b__law_written_otherwise .nil pass0 (pa_cons (pv 1) (pa_cons pe_int pa_nil))))) (pg_name (i := 6) sc_law.nd rfl (Or.inl rfl))
  (pss_one (ps_if (pt_not (pt_val (pe_call G__law_reads_right (hr.mono (by first | decide | omega)) (by rfl) T.g__law_reads_right T.F__law_reads_right.kp T.b__law_reads_right .nil pass0 (pa_cons (pv 6) pa_nil))))
  (pss_one (ps_ret pe_bl))
  pss_nil)))
  (pss_one (ps_ret pe_bl)))))))))))), ?_⟩
    clear G__law_stream G__law_pick G__law_tree G__law_wrapped G__law_lens_text G_write_lens G_read_lens G__law_same G__law_spoilt G__law_written_otherwise G__law_reads_right
    rw [st_law]
    try dsimp only [cxOf]
    walk_at "g"
    refine ⟨a, ns, _, rfl, hS, hlen, by omega, by omega, fun H1 b xs s1 np e1 hx dx => ?_⟩
    have hX : SqL K H1 b (xs.map V.int) := SqL.of e1
    clear e1 s1 np hS dx
    walk_at "g"
    refine ⟨b, xs, 0, rfl, hX, by omega, fun H2 x t s2 dp dr => ?_⟩
    replace hX := s2.seq hX
    clear s2
    walk_at "g"
    refine ⟨fun σ H' => ∃ (x : Addr) (t : Ln), SqL K H' b (xs.map V.int) ∧ Dp K H' (.ref x) (lnD t) ∧ (t.rd ∧ t.nest ≤ 15 ∧ t.pd ≤ 3 ∧ t.sz ≤ 3000 ∧ t.mw ≤ 4) ∧ σ = [some (.ref a), some (.ref b), some (.ref x), none, none, none, none], ?_, ?_⟩
    · walk_at "g"
      refine ⟨b, xs, _, _, rfl, hX, by omega, by omega, ?_⟩
      walk_at "g"
      refine Gx.iteD (fun h => ?_) (fun h => ?_)
      · walk_at "g"
        refine ⟨x, t, b, xs, _, rfl, dp, dr, hX, by omega, fun H3 x3 t3 s3 dp3 ht3 => ?_⟩
        walk_at "g"
        exact ⟨x3, t3, s3.seq hX, dp3, ht3, rfl⟩
      · walk_at "g"
        refine ⟨x, t, hX, dp, ⟨dr.rd, by have := dr.nest; omega, dr.pd, ?_, dr.mw⟩, rfl⟩
        have h := dr.sz
        have e : bL 3 = 1440 := by decide
        omega
    clear dp dr hX x t
    rintro σ H2 ⟨x, t, hX, dp, ⟨hrd, hnest, hpd, hsz, hmw⟩, rfl⟩
    have hsg := Ln.rd_sg t hrd
    walk_at "g"
    refine Gx.newL (by simp) (fun p0 H3 E3 => ?_)
    replace hX := E3.same.seq hX
    replace dp := Gx.dp_same E3.same _ _ dp
    have e3 := E3.at_
    clear E3
    walk_at "g"
    refine ⟨.ref x, t, p0, [], 0, false, rfl, dp, by omega, hpd, by omega, SqL.of e3, by simp, by simp, fun H4 u s4 lt => ?_⟩
    replace hX := s4.seq hX
    replace dp := Gx.dp_same s4 _ _ dp
    clear s4 e3
    have hxne : xs ≠ [] := fun z => by rw [z] at hx; simp at hx
    walk_at "g"
    refine ⟨.ref x, t, b, xs, 40, true, rfl, dp, by omega, hpd, by omega, hX, by omega, by rw [decide_eq_true hxne], fun H5 v s5 lv => ?_⟩
    replace hX := s5.seq hX
    replace dp := Gx.dp_same s5 _ _ dp
    clear s5
    have ep := lt.plainL
    have tl := lt.len
    have vl := lv.len
    have tb := (lt.bal hsg hpd).dep
    have vb := (lv.bal hsg hpd).dep
    have tm := lt.msw hsg
    have vm := lv.msw hsg
    have tp := lt.pos
    have vp := lv.pos
    have tr := lt.readL hrd (n := 32 + 1) (by omega)
    have vr := lv.readL hrd (n := 32 + 1) (by omega)
    have oku : Gx.okD (.str (Gx.mkS u)) = true := (lt.cp hsg).okD
    have okt := Ln.okD t hsg
    have dpt : PyData.depth (lnD t) ≤ 60 := by rw [Ln.depD]; have := Ln.depth_le t; omega
    walk_at "g"
    refine ⟨.ref x, t, rfl, dp, by omega, hpd, by omega, fun H6 s6 => ?_⟩
    replace hX := s6.seq hX
    replace dp := Gx.dp_same s6 _ _ dp
    clear s6
    rw [← ep]
    walk_at "g"
    refine ⟨_, _, _, rfl, .str _, .str _, oku, by simp [PyData.depth], fun H7 s7 => ?_⟩
    replace hX := s7.seq hX
    replace dp := Gx.dp_same s7 _ _ dp
    clear s7
    walk_at "g"
    refine ⟨u, rfl, by omega, by omega, ?_⟩
    rw [tr]
    intro H8 r1 s8 d1
    replace hX := s8.seq hX
    replace dp := Gx.dp_same s8 _ _ dp
    clear s8
    walk_at "g"
    refine ⟨_, _, _, rfl, d1, dp, okt, dpt, fun H9 s9 => ?_⟩
    replace hX := s9.seq hX
    replace dp := Gx.dp_same s9 _ _ dp
    clear s9 d1
    walk_at "g"
    refine ⟨v, rfl, by omega, by omega, ?_⟩
    rw [vr]
    intro H10 r2 s10 d2
    replace hX := s10.seq hX
    replace dp := Gx.dp_same s10 _ _ dp
    clear s10
    walk_at "g"
    refine ⟨_, _, _, rfl, d2, dp, okt, dpt, fun H11 s11 => ?_⟩
    replace hX := s11.seq hX
    replace dp := Gx.dp_same s11 _ _ dp
    clear s11 d2
    walk_at "g"
    refine ⟨v, rfl, by omega, by omega, ?_⟩
    rw [vr]
    intro H12 r3 s12 d3
    replace hX := s12.seq hX
    replace dp := Gx.dp_same s12 _ _ dp
    clear s12
    walk_at "g"
    refine ⟨r3, t, rfl, d3, by omega, hpd, by omega, fun H13 s13 => ?_⟩
    replace hX := s13.seq hX
    clear s13 d3
    rw [← ep]
    walk_at "g"
    refine ⟨_, _, _, rfl, .str _, .str _, oku, by simp [PyData.depth], fun H14 s14 => ?_⟩
    replace hX := s14.seq hX
    clear s14
    walk_at "g"
    refine Gx.newL (by simp) (fun l0 H15 E15 => ?_)
    replace hX := E15.same.seq hX
    have e15 := E15.at_
    clear E15
    walk_at "g"
    refine ⟨b, xs, u, _, rfl, hX, by omega, tp, by omega, fun H16 l1 ts s16 e16 tn tnear => ?_⟩
    replace hX := s16.seq hX
    walk_at "g"
    refine Gx.cat1 (s16 _ _ e15) e16 (by rw [List.length_map, List.length_map, tn]; simp) (fun l2 H17 E17 => ?_)
    replace hX := E17.same.seq hX
    have e17 := E17.at_
    clear E17 s16 e15 e16
    walk_at "g"
    refine ⟨b, xs, v, _, rfl, hX, by omega, vp, by omega, fun H18 l3 us s18 e18 un unear => ?_⟩
    replace hX := s18.seq hX
    walk_at "g"
    refine Gx.cat1 (s18 _ _ e17) e18 (by simp [tn, un]) (fun l4 H19 E19 => ?_)
    replace hX := E19.same.seq hX
    have e19 := E19.at_
    clear E19 s18 e17 e18
    walk_at "g"
    refine ⟨b, xs, _, rfl, hX, by omega, fun H20 l5 ws s20 e20 wn wlen => ?_⟩
    walk_at "g"
    refine Gx.cat1 (s20 _ _ e19) e20 (by simp [tn, un]; omega) (fun l6 H21 E21 => ?_)
    have e21 : H21 l6 = some (.lst ((([[], u, v] ++ ts ++ us ++ ws).map Gx.mkS).map V.str)) := by
      rw [E21.at_]
      simp only [List.map_append]
      rfl
    have hall : ∀ z ∈ [[], u, v] ++ ts ++ us ++ ws, z.length ≤ 5000 ∧ dep z ≤ 32 ∧ msw z ≤ 27 := fun z hz => by
      rcases List.mem_append.mp hz with hz | hz
      · rcases List.mem_append.mp hz with hz | hz
        · rcases List.mem_append.mp hz with hz | hz
          · simp only [List.mem_cons, List.not_mem_nil, or_false] at hz
            rcases hz with rfl | rfl | rfl
            · exact ⟨by simp, by decide, by decide⟩
            · exact ⟨by omega, by omega, by omega⟩
            · exact ⟨by omega, by omega, by omega⟩
          · have := tnear z hz
            exact ⟨by have := this.len; omega, by have := this.dp; omega, by have := this.mw; omega⟩
        · have := unear z hz
          exact ⟨by have := this.len; omega, by have := this.dp; omega, by have := this.mw; omega⟩
      · have h1 := wlen z hz
        have h2 := dep_len z
        have h3 := (msw_len z).1
        exact ⟨by omega, by omega, by omega⟩
    generalize [[], u, v] ++ ts ++ us ++ ws = all at e21 hall
    have hL := SqL.of (K := K) e21
    clear e19 e20 e21 E21 s20 tnear unear
    walk_at "g"
    refine ⟨⟨_, hL⟩, for_list (K := K) (a := l6) (xs := (all.map Gx.mkS).map V.str) (fun i σ H22 => Same H21 H22 ∧ ∃ y, σ = [some (.ref a), some (.ref b), some (.ref x), some (.str (Gx.mkS u)), some (.str (Gx.mkS v)), some (.ref l4), y])
      ⟨Same.refl _, none, rfl⟩ (fun i σ H22 _ z => z.1.seq hL) ?_ ?_⟩
    · rintro i z σ H22 hi ⟨s22, y, rfl⟩
      rw [List.getElem?_map, List.getElem?_map] at hi
      obtain ⟨zs, hz, rfl⟩ := Option.map_eq_some_iff.mp hi
      obtain ⟨zl, hz2, rfl⟩ := Option.map_eq_some_iff.mp hz
      obtain ⟨k1, k2, k3⟩ := hall zl (List.mem_of_getElem? hz2)
      walk_at "g"
      refine ⟨zl, rfl, k1, k2, k3, fun H23 s23 => ?_⟩
      walk_at "g"
      exact ⟨s22.trans s23, _, rfl⟩
    · rintro σ H22 ⟨s22, y, rfl⟩
      walk_at "g"
      exact q _
end
end K13
open PySem PySem.W PyProof.Rows
set_option maxHeartbeats 0 in
theorem PySem.Challenge.cw_textsputback_k13_lens_texts_holds : PySem.Challenge.rw_textsputback_k13_lens_texts.Holds := by
  w_on; o_law; k_head; (case hw => w_witness2)
  k_fill
  refine L2.walk_of (l := PySem.Challenge.rw_textsputback_k13_lens_texts) (n := 63) (k := 141) (x := "script") (CX := fun _ => L2.CX0) (sp := fun w => K13.spLaw _) rfl (by decide) rfl ⟨rfl, by decide, by decide⟩ (fun w h Y => PySem.W.kIn_of Y) ?F (fun _ _ a ns hl _ hS => ⟨a, ns, rfl, hS, hl, fun _ => rfl⟩) (fun _ _ _ _ _ h => h)
  case F =>
    intro w mg fa h KX G hmg
    obtain ⟨T, e⟩ : ∃ T : K13.Txt _ mg w, T.f_law = fa := by
      refine' K13.txt_mk KX G ?ga_LensError ?k_LensError ?x_LensError ?bP_LensError ?tP_LensError ?iP_LensError ?ga_TooMany ?k_TooMany ?oc_TooMany ?orf_TooMany ?osa_TooMany ?oxc_TooMany ?otc_TooMany ?oga_TooMany ?ogg_TooMany ?ohd_TooMany ?ocl_TooMany ?omr_TooMany ?on_TooMany ?ga_NotInSource ?k_NotInSource ?oc_NotInSource ?orf_NotInSource ?osa_NotInSource ?oxc_NotInSource ?otc_NotInSource ?oga_NotInSource ?ogg_NotInSource ?ohd_NotInSource ?ocl_NotInSource ?omr_NotInSource ?on_NotInSource ?ga_NotInView ?k_NotInView ?oc_NotInView ?orf_NotInView ?osa_NotInView ?oxc_NotInView ?otc_NotInView ?oga_NotInView ?ogg_NotInView ?ohd_NotInView ?ocl_NotInView ?omr_NotInView ?on_NotInView ?ga_BadText ?k_BadText ?oc_BadText ?orf_BadText ?osa_BadText ?oxc_BadText ?otc_BadText ?oga_BadText ?ogg_BadText ?ohd_BadText ?ocl_BadText ?omr_BadText ?on_BadText ?ga_NotSound ?k_NotSound ?hn_ ?htk_ ?ga_TooMany_init ?ot_TooMany ?ot_NotInSource ?ot_NotInView ?ot_BadText ?l_TooMany_init ?cc_TooMany_init ?k_TooMany_init ?ga_NotInSource_init ?l_NotInSource_init ?cc_NotInSource_init ?k_NotInSource_init ?ga_NotInView_init ?l_NotInView_init ?cc_NotInView_init ?k_NotInView_init ?ga_BadText_init ?l_BadText_init ?cc_BadText_init ?k_BadText_init ?ga_children ?l_children ?cc_children ?k_children ?ga_enclosed ?l_enclosed ?cc_enclosed ?k_enclosed ?ga_write_pattern ?l_write_pattern ?cc_write_pattern ?k_write_pattern ?ga_behind ?l_behind ?cc_behind ?k_behind ?ga_signs_end ?l_signs_end ?cc_signs_end ?k_signs_end ?ga_ascending_end ?l_ascending_end ?cc_ascending_end ?k_ascending_end ?ga_grouped ?l_grouped ?cc_grouped ?k_grouped ?ga_base_at ?l_base_at ?cc_base_at ?k_base_at ?ga_item_at ?l_item_at ?cc_item_at ?k_item_at ?ga_chain_at ?l_chain_at ?cc_chain_at ?k_chain_at ?ga_pattern_at ?l_pattern_at ?cc_pattern_at ?k_pattern_at ?ga_write_lens ?l_write_lens ?cc_write_lens ?k_write_lens ?ga_shared_size ?l_shared_size ?cc_shared_size ?k_shared_size ?ga_opener_at ?l_opener_at ?cc_opener_at ?k_opener_at ?ga_renaming_end ?l_renaming_end ?cc_renaming_end ?k_renaming_end ?ga_leaf_at ?l_leaf_at ?cc_leaf_at ?k_leaf_at ?ga_lens_at ?l_lens_at ?cc_lens_at ?k_lens_at ?ga_read_lens ?l_read_lens ?cc_read_lens ?k_read_lens ?ga__law_mix ?l__law_mix ?cc__law_mix ?k__law_mix ?ga__law_stream ?l__law_stream ?cc__law_stream ?k__law_stream ?ga__law_pick ?l__law_pick ?cc__law_pick ?k__law_pick ?ga__law_kind ?l__law_kind ?cc__law_kind ?k__law_kind ?ga__law_same ?l__law_same ?cc__law_same ?k__law_same ?ga__law_signs ?l__law_signs ?cc__law_signs ?k__law_signs ?ga__law_word ?l__law_word ?cc__law_word ?k__law_word ?ga__law_renaming ?l__law_renaming ?cc__law_renaming ?k__law_renaming ?ga__law_pattern ?l__law_pattern ?cc__law_pattern ?k__law_pattern ?ga__law_tree ?l__law_tree ?cc__law_tree ?k__law_tree ?ga__law_wrapped ?l__law_wrapped ?cc__law_wrapped ?k__law_wrapped ?ga__law_pattern_text ?l__law_pattern_text ?cc__law_pattern_text ?k__law_pattern_text ?ga__law_lens_text ?l__law_lens_text ?cc__law_lens_text ?k__law_lens_text ?ga__law_folded ?l__law_folded ?cc__law_folded ?k__law_folded ?ga__law_end ?l__law_end ?cc__law_end ?k__law_end ?ga__law_read_item ?l__law_read_item ?cc__law_read_item ?k__law_read_item ?ga__law_read_pattern ?l__law_read_pattern ?cc__law_read_pattern ?k__law_read_pattern ?ga__law_read_leaf ?l__law_read_leaf ?cc__law_read_leaf ?k__law_read_leaf ?ga__law_read_lens ?l__law_read_lens ?cc__law_read_lens ?k__law_read_lens ?ga__law_read ?l__law_read ?cc__law_read ?k__law_read ?ga__law_spoilt ?l__law_spoilt ?cc__law_spoilt ?k__law_spoilt ?ga__law_written_otherwise ?l__law_written_otherwise ?cc__law_written_otherwise ?k__law_written_otherwise ?ga__law_reads_right ?l__law_reads_right ?cc__law_reads_right ?k__law_reads_right ?ga_law ?l_law ?cc_law ?k_law ?zz_abs ?zz_bool ?zz_int ?zz_isinstance ?zz_len ?zz_list ?zz_max ?zz_min ?zz_range ?zz_reversed ?zz_str ?zz_tuple ?ga_PLACES ?dw_PLACES ?di_PLACES ?ga_LEAVES ?kty_LEAVES ?kts_LEAVES ?ga_OPENERS ?kty_OPENERS ?kts_OPENERS ?ki_tm ?ki_nis ?ki_niv ?ki_ns ?ki_le ?em_bt hmg
      (case ga_LensError => first | k_is | rfl | decide +kernel)
      (case k_LensError => first | k_is | rfl | decide +kernel)
      (case x_LensError => k_exc)
      (case bP_LensError => first | k_is | rfl | decide +kernel)
      (case tP_LensError => first | k_is | rfl | decide +kernel)
      (case iP_LensError => first | k_is | rfl | decide +kernel)
      (case ga_TooMany => first | k_is | rfl | decide +kernel)
      (case k_TooMany => first | k_is | rfl | decide +kernel)
      (case oc_TooMany => first | k_is | rfl | decide +kernel)
      (case orf_TooMany => first | k_is | rfl | decide +kernel)
      (case osa_TooMany => first | k_is | rfl | decide +kernel)
      (case oxc_TooMany => first | k_is | rfl | decide +kernel)
      (case otc_TooMany => first | k_is | rfl | decide +kernel)
      (case oga_TooMany => first | k_is | rfl | decide +kernel)
      (case ogg_TooMany => first | k_is | rfl | decide +kernel)
      (case ohd_TooMany => first | k_is | rfl | decide +kernel)
      (case ocl_TooMany => first | k_is | rfl | decide +kernel)
      (case omr_TooMany => first | k_is | rfl | decide +kernel)
      (case on_TooMany => first | k_is | rfl | decide +kernel)
      (case ga_NotInSource => first | k_is | rfl | decide +kernel)
      (case k_NotInSource => first | k_is | rfl | decide +kernel)
      (case oc_NotInSource => first | k_is | rfl | decide +kernel)
      (case orf_NotInSource => first | k_is | rfl | decide +kernel)
      (case osa_NotInSource => first | k_is | rfl | decide +kernel)
      (case oxc_NotInSource => first | k_is | rfl | decide +kernel)
      (case otc_NotInSource => first | k_is | rfl | decide +kernel)
      (case oga_NotInSource => first | k_is | rfl | decide +kernel)
      (case ogg_NotInSource => first | k_is | rfl | decide +kernel)
      (case ohd_NotInSource => first | k_is | rfl | decide +kernel)
      (case ocl_NotInSource => first | k_is | rfl | decide +kernel)
      (case omr_NotInSource => first | k_is | rfl | decide +kernel)
      (case on_NotInSource => first | k_is | rfl | decide +kernel)
      (case ga_NotInView => first | k_is | rfl | decide +kernel)
      (case k_NotInView => first | k_is | rfl | decide +kernel)
      (case oc_NotInView => first | k_is | rfl | decide +kernel)
      (case orf_NotInView => first | k_is | rfl | decide +kernel)
      (case osa_NotInView => first | k_is | rfl | decide +kernel)
      (case oxc_NotInView => first | k_is | rfl | decide +kernel)
      (case otc_NotInView => first | k_is | rfl | decide +kernel)
      (case oga_NotInView => first | k_is | rfl | decide +kernel)
      (case ogg_NotInView => first | k_is | rfl | decide +kernel)
      (case ohd_NotInView => first | k_is | rfl | decide +kernel)
      (case ocl_NotInView => first | k_is | rfl | decide +kernel)
      (case omr_NotInView => first | k_is | rfl | decide +kernel)
      (case on_NotInView => first | k_is | rfl | decide +kernel)
      (case ga_BadText => first | k_is | rfl | decide +kernel)
      (case k_BadText => first | k_is | rfl | decide +kernel)
      (case oc_BadText => first | k_is | rfl | decide +kernel)
      (case orf_BadText => first | k_is | rfl | decide +kernel)
      (case osa_BadText => first | k_is | rfl | decide +kernel)
      (case oxc_BadText => first | k_is | rfl | decide +kernel)
      (case otc_BadText => first | k_is | rfl | decide +kernel)
      (case oga_BadText => first | k_is | rfl | decide +kernel)
      (case ogg_BadText => first | k_is | rfl | decide +kernel)
      (case ohd_BadText => first | k_is | rfl | decide +kernel)
      (case ocl_BadText => first | k_is | rfl | decide +kernel)
      (case omr_BadText => first | k_is | rfl | decide +kernel)
      (case on_BadText => first | k_is | rfl | decide +kernel)
      (case ga_NotSound => first | k_is | rfl | decide +kernel)
      (case k_NotSound => first | k_is | rfl | decide +kernel)
      (case hn_ => first | k_is | rfl | decide +kernel)
      (case htk_ => first | k_is | rfl | decide +kernel)
      (case ga_TooMany_init => first | k_is | rfl | decide +kernel)
      (case l_TooMany_init => first | k_is | rfl | decide +kernel)
      (case cc_TooMany_init => first | k_is | rfl | decide +kernel)
      (case k_TooMany_init => first | k_is | rfl | decide +kernel)
      (case ga_NotInSource_init => first | k_is | rfl | decide +kernel)
      (case l_NotInSource_init => first | k_is | rfl | decide +kernel)
      (case cc_NotInSource_init => first | k_is | rfl | decide +kernel)
      (case k_NotInSource_init => first | k_is | rfl | decide +kernel)
      (case ga_NotInView_init => first | k_is | rfl | decide +kernel)
      (case l_NotInView_init => first | k_is | rfl | decide +kernel)
      (case cc_NotInView_init => first | k_is | rfl | decide +kernel)
      (case k_NotInView_init => first | k_is | rfl | decide +kernel)
      (case ga_BadText_init => first | k_is | rfl | decide +kernel)
      (case l_BadText_init => first | k_is | rfl | decide +kernel)
      (case cc_BadText_init => first | k_is | rfl | decide +kernel)
      (case k_BadText_init => first | k_is | rfl | decide +kernel)
      (case ga_children => first | k_is | rfl | decide +kernel)
      (case l_children => first | k_is | rfl | decide +kernel)
      (case cc_children => first | k_is | rfl | decide +kernel)
      (case k_children => first | k_is | rfl | decide +kernel)
      (case ga_enclosed => first | k_is | rfl | decide +kernel)
      (case l_enclosed => first | k_is | rfl | decide +kernel)
      (case cc_enclosed => first | k_is | rfl | decide +kernel)
      (case k_enclosed => first | k_is | rfl | decide +kernel)
      (case ga_write_pattern => first | k_is | rfl | decide +kernel)
      (case l_write_pattern => first | k_is | rfl | decide +kernel)
      (case cc_write_pattern => first | k_is | rfl | decide +kernel)
      (case k_write_pattern => first | k_is | rfl | decide +kernel)
      (case ga_behind => first | k_is | rfl | decide +kernel)
      (case l_behind => first | k_is | rfl | decide +kernel)
      (case cc_behind => first | k_is | rfl | decide +kernel)
      (case k_behind => first | k_is | rfl | decide +kernel)
      (case ga_signs_end => first | k_is | rfl | decide +kernel)
      (case l_signs_end => first | k_is | rfl | decide +kernel)
      (case cc_signs_end => first | k_is | rfl | decide +kernel)
      (case k_signs_end => first | k_is | rfl | decide +kernel)
      (case ga_ascending_end => first | k_is | rfl | decide +kernel)
      (case l_ascending_end => first | k_is | rfl | decide +kernel)
      (case cc_ascending_end => first | k_is | rfl | decide +kernel)
      (case k_ascending_end => first | k_is | rfl | decide +kernel)
      (case ga_grouped => first | k_is | rfl | decide +kernel)
      (case l_grouped => first | k_is | rfl | decide +kernel)
      (case cc_grouped => first | k_is | rfl | decide +kernel)
      (case k_grouped => first | k_is | rfl | decide +kernel)
      (case ga_base_at => first | k_is | rfl | decide +kernel)
      (case l_base_at => first | k_is | rfl | decide +kernel)
      (case cc_base_at => first | k_is | rfl | decide +kernel)
      (case k_base_at => first | k_is | rfl | decide +kernel)
      (case ga_item_at => first | k_is | rfl | decide +kernel)
      (case l_item_at => first | k_is | rfl | decide +kernel)
      (case cc_item_at => first | k_is | rfl | decide +kernel)
      (case k_item_at => first | k_is | rfl | decide +kernel)
      (case ga_chain_at => first | k_is | rfl | decide +kernel)
      (case l_chain_at => first | k_is | rfl | decide +kernel)
      (case cc_chain_at => first | k_is | rfl | decide +kernel)
      (case k_chain_at => first | k_is | rfl | decide +kernel)
      (case ga_pattern_at => first | k_is | rfl | decide +kernel)
      (case l_pattern_at => first | k_is | rfl | decide +kernel)
      (case cc_pattern_at => first | k_is | rfl | decide +kernel)
      (case k_pattern_at => first | k_is | rfl | decide +kernel)
      (case ga_write_lens => first | k_is | rfl | decide +kernel)
      (case l_write_lens => first | k_is | rfl | decide +kernel)
      (case cc_write_lens => first | k_is | rfl | decide +kernel)
      (case k_write_lens => first | k_is | rfl | decide +kernel)
      (case ga_shared_size => first | k_is | rfl | decide +kernel)
      (case l_shared_size => first | k_is | rfl | decide +kernel)
      (case cc_shared_size => first | k_is | rfl | decide +kernel)
      (case k_shared_size => first | k_is | rfl | decide +kernel)
      (case ga_opener_at => first | k_is | rfl | decide +kernel)
      (case l_opener_at => first | k_is | rfl | decide +kernel)
      (case cc_opener_at => first | k_is | rfl | decide +kernel)
      (case k_opener_at => first | k_is | rfl | decide +kernel)
      (case ga_renaming_end => first | k_is | rfl | decide +kernel)
      (case l_renaming_end => first | k_is | rfl | decide +kernel)
      (case cc_renaming_end => first | k_is | rfl | decide +kernel)
      (case k_renaming_end => first | k_is | rfl | decide +kernel)
      (case ga_leaf_at => first | k_is | rfl | decide +kernel)
      (case l_leaf_at => first | k_is | rfl | decide +kernel)
      (case cc_leaf_at => first | k_is | rfl | decide +kernel)
      (case k_leaf_at => first | k_is | rfl | decide +kernel)
      (case ga_lens_at => first | k_is | rfl | decide +kernel)
      (case l_lens_at => first | k_is | rfl | decide +kernel)
      (case cc_lens_at => first | k_is | rfl | decide +kernel)
      (case k_lens_at => first | k_is | rfl | decide +kernel)
      (case ga_read_lens => first | k_is | rfl | decide +kernel)
      (case l_read_lens => first | k_is | rfl | decide +kernel)
      (case cc_read_lens => first | k_is | rfl | decide +kernel)
      (case k_read_lens => first | k_is | rfl | decide +kernel)
      (case ga__law_mix => first | k_is | rfl | decide +kernel)
      (case l__law_mix => first | k_is | rfl | decide +kernel)
      (case cc__law_mix => first | k_is | rfl | decide +kernel)
      (case k__law_mix => first | k_is | rfl | decide +kernel)
      (case ga__law_stream => first | k_is | rfl | decide +kernel)
      (case l__law_stream => first | k_is | rfl | decide +kernel)
      (case cc__law_stream => first | k_is | rfl | decide +kernel)
      (case k__law_stream => first | k_is | rfl | decide +kernel)
      (case ga__law_pick => first | k_is | rfl | decide +kernel)
      (case l__law_pick => first | k_is | rfl | decide +kernel)
      (case cc__law_pick => first | k_is | rfl | decide +kernel)
      (case k__law_pick => first | k_is | rfl | decide +kernel)
      (case ga__law_kind => first | k_is | rfl | decide +kernel)
      (case l__law_kind => first | k_is | rfl | decide +kernel)
      (case cc__law_kind => first | k_is | rfl | decide +kernel)
      (case k__law_kind => first | k_is | rfl | decide +kernel)
      (case ga__law_same => first | k_is | rfl | decide +kernel)
      (case l__law_same => first | k_is | rfl | decide +kernel)
      (case cc__law_same => first | k_is | rfl | decide +kernel)
      (case k__law_same => first | k_is | rfl | decide +kernel)
      (case ga__law_signs => first | k_is | rfl | decide +kernel)
      (case l__law_signs => first | k_is | rfl | decide +kernel)
      (case cc__law_signs => first | k_is | rfl | decide +kernel)
      (case k__law_signs => first | k_is | rfl | decide +kernel)
      (case ga__law_word => first | k_is | rfl | decide +kernel)
      (case l__law_word => first | k_is | rfl | decide +kernel)
      (case cc__law_word => first | k_is | rfl | decide +kernel)
      (case k__law_word => first | k_is | rfl | decide +kernel)
      (case ga__law_renaming => first | k_is | rfl | decide +kernel)
      (case l__law_renaming => first | k_is | rfl | decide +kernel)
      (case cc__law_renaming => first | k_is | rfl | decide +kernel)
      (case k__law_renaming => first | k_is | rfl | decide +kernel)
      (case ga__law_pattern => first | k_is | rfl | decide +kernel)
      (case l__law_pattern => first | k_is | rfl | decide +kernel)
      (case cc__law_pattern => first | k_is | rfl | decide +kernel)
      (case k__law_pattern => first | k_is | rfl | decide +kernel)
      (case ga__law_tree => first | k_is | rfl | decide +kernel)
      (case l__law_tree => first | k_is | rfl | decide +kernel)
      (case cc__law_tree => first | k_is | rfl | decide +kernel)
      (case k__law_tree => first | k_is | rfl | decide +kernel)
      (case ga__law_wrapped => first | k_is | rfl | decide +kernel)
      (case l__law_wrapped => first | k_is | rfl | decide +kernel)
      (case cc__law_wrapped => first | k_is | rfl | decide +kernel)
      (case k__law_wrapped => first | k_is | rfl | decide +kernel)
      (case ga__law_pattern_text => first | k_is | rfl | decide +kernel)
      (case l__law_pattern_text => first | k_is | rfl | decide +kernel)
      (case cc__law_pattern_text => first | k_is | rfl | decide +kernel)
      (case k__law_pattern_text => first | k_is | rfl | decide +kernel)
      (case ga__law_lens_text => first | k_is | rfl | decide +kernel)
      (case l__law_lens_text => first | k_is | rfl | decide +kernel)
      (case cc__law_lens_text => first | k_is | rfl | decide +kernel)
      (case k__law_lens_text => first | k_is | rfl | decide +kernel)
      (case ga__law_folded => first | k_is | rfl | decide +kernel)
      (case l__law_folded => first | k_is | rfl | decide +kernel)
      (case cc__law_folded => first | k_is | rfl | decide +kernel)
      (case k__law_folded => first | k_is | rfl | decide +kernel)
      (case ga__law_end => first | k_is | rfl | decide +kernel)
      (case l__law_end => first | k_is | rfl | decide +kernel)
      (case cc__law_end => first | k_is | rfl | decide +kernel)
      (case k__law_end => first | k_is | rfl | decide +kernel)
      (case ga__law_read_item => first | k_is | rfl | decide +kernel)
      (case l__law_read_item => first | k_is | rfl | decide +kernel)
      (case cc__law_read_item => first | k_is | rfl | decide +kernel)
      (case k__law_read_item => first | k_is | rfl | decide +kernel)
      (case ga__law_read_pattern => first | k_is | rfl | decide +kernel)
      (case l__law_read_pattern => first | k_is | rfl | decide +kernel)
      (case cc__law_read_pattern => first | k_is | rfl | decide +kernel)
      (case k__law_read_pattern => first | k_is | rfl | decide +kernel)
      (case ga__law_read_leaf => first | k_is | rfl | decide +kernel)
      (case l__law_read_leaf => first | k_is | rfl | decide +kernel)
      (case cc__law_read_leaf => first | k_is | rfl | decide +kernel)
      (case k__law_read_leaf => first | k_is | rfl | decide +kernel)
      (case ga__law_read_lens => first | k_is | rfl | decide +kernel)
      (case l__law_read_lens => first | k_is | rfl | decide +kernel)
      (case cc__law_read_lens => first | k_is | rfl | decide +kernel)
      (case k__law_read_lens => first | k_is | rfl | decide +kernel)
      (case ga__law_read => first | k_is | rfl | decide +kernel)
      (case l__law_read => first | k_is | rfl | decide +kernel)
      (case cc__law_read => first | k_is | rfl | decide +kernel)
      (case k__law_read => first | k_is | rfl | decide +kernel)
      (case ga__law_spoilt => first | k_is | rfl | decide +kernel)
      (case l__law_spoilt => first | k_is | rfl | decide +kernel)
      (case cc__law_spoilt => first | k_is | rfl | decide +kernel)
      (case k__law_spoilt => first | k_is | rfl | decide +kernel)
      (case ga__law_written_otherwise => first | k_is | rfl | decide +kernel)
      (case l__law_written_otherwise => first | k_is | rfl | decide +kernel)
      (case cc__law_written_otherwise => first | k_is | rfl | decide +kernel)
      (case k__law_written_otherwise => first | k_is | rfl | decide +kernel)
      (case ga__law_reads_right => first | k_is | rfl | decide +kernel)
      (case l__law_reads_right => first | k_is | rfl | decide +kernel)
      (case cc__law_reads_right => first | k_is | rfl | decide +kernel)
      (case k__law_reads_right => first | k_is | rfl | decide +kernel)
      (case ga_law => first | k_is | rfl | decide +kernel)
      (case l_law => first | k_is | rfl | decide +kernel)
      (case cc_law => first | k_is | rfl | decide +kernel)
      (case k_law => first | k_is | rfl | decide +kernel)
      (case zz_abs => first | k_is | rfl | decide +kernel)
      (case zz_bool => first | k_is | rfl | decide +kernel)
      (case zz_int => first | k_is | rfl | decide +kernel)
      (case zz_isinstance => first | k_is | rfl | decide +kernel)
      (case zz_len => first | k_is | rfl | decide +kernel)
      (case zz_list => first | k_is | rfl | decide +kernel)
      (case zz_max => first | k_is | rfl | decide +kernel)
      (case zz_min => first | k_is | rfl | decide +kernel)
      (case zz_range => first | k_is | rfl | decide +kernel)
      (case zz_reversed => first | k_is | rfl | decide +kernel)
      (case zz_str => first | k_is | rfl | decide +kernel)
      (case zz_tuple => first | k_is | rfl | decide +kernel)
      (case ga_PLACES => first | k_is | rfl | decide +kernel)
      (case dw_PLACES => first | k_is | rfl | decide +kernel)
      (case di_PLACES => first | k_is | rfl | decide +kernel)
      (case ga_LEAVES => first | k_is | rfl | decide +kernel)
      (case kty_LEAVES => first | k_is | rfl | decide +kernel)
      (case kts_LEAVES => first | k_is | rfl | decide +kernel)
      (case ga_OPENERS => first | k_is | rfl | decide +kernel)
      (case kty_OPENERS => first | k_is | rfl | decide +kernel)
      (case kts_OPENERS => first | k_is | rfl | decide +kernel)
      (case ki_tm => first | k_is | rfl | decide +kernel)
      (case ki_nis => first | k_is | rfl | decide +kernel)
      (case ki_niv => first | k_is | rfl | decide +kernel)
      (case ki_ns => first | k_is | rfl | decide +kernel)
      (case ki_le => first | k_is | rfl | decide +kernel)
      (case em_bt => first | k_is | rfl | decide +kernel)
      (case ot_TooMany => first | k_is | rfl | decide +kernel)
      (case ot_NotInSource => first | k_is | rfl | decide +kernel)
      (case ot_NotInView => first | k_is | rfl | decide +kernel)
      (case ot_BadText => first | k_is | rfl | decide +kernel)
    subst e
    exact ⟨T.fd_law, T.bt_law, fun base _ _ => K13.ok_law T⟩
