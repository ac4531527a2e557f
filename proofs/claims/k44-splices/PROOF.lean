import PyProof.Rows.All
import Wide.All
import OpenK.AllK
import Wide.FinOn
import PySem.Challenge.RW_textsputback_k44_splices
import HandS.ForMost
import HandS.ForExc
import HandS.IsInst
import HandS.Style
import HandS.Property
import HandS.Codes
import HandS.Star
import HandS.CallSlots
import HandS.WordsExc
import HandS.ExcIs
set_option Elab.async false
set_option linter.all false
set_option maxRecDepth 100000
set_option maxHeartbeats 400000
/-! ### my short words for readings -/
namespace Gx
open PySem PySem.Spec PyProof.Rows L2
section
variable {σ : L2.St} {H : Hp} {Q : VK} {D : Ends} {ta tb te : TE} {t u : TS} {x y v : V} {K : PySem.W.Frag}
theorem seq (h : t { D with nx := u D } σ H) : tSeq t u D σ H := h
theorem nx {n : L2.St → Hp → Prop} {r : VK} {b c : L2.St → Hp → Prop} (h : n σ H) : Ends.nx ⟨n, r, b, c⟩ σ H := h
theorem rt {n : L2.St → Hp → Prop} {r : VK} {b c : L2.St → Hp → Prop} (h : r v H) : Ends.rt ⟨n, r, b, c⟩ v H := h
theorem bk {n : L2.St → Hp → Prop} {r : VK} {b c : L2.St → Hp → Prop} (h : b σ H) : Ends.bk ⟨n, r, b, c⟩ σ H := h
theorem ct {n : L2.St → Hp → Prop} {r : VK} {b c : L2.St → Hp → Prop} (h : c σ H) : Ends.ct ⟨n, r, b, c⟩ σ H := h
theorem next (h : D.nx σ H) : tNext D σ H := h
theorem brk (h : D.bk σ H) : tBreak D σ H := h
theorem cont (h : D.ct σ H) : tCont D σ H := h
theorem asg {g : TG} (h : te σ H fun x H1 => g x σ H1 D.nx) : tAsg te g D σ H := h
theorem ret (h : te σ H D.rt) : tRet te D σ H := h
theorem retN (h : D.rt .non H) : tRetN D σ H := h
theorem drop (h : te σ H fun _ H1 => D.nx σ H1) : tDrop te D σ H := h
theorem ifs {c : TT} (h : c σ H fun b H1 => if b = true then t D σ H1 else u D σ H1) : tIfS c t u D σ H := h
theorem var {i : Nat} (e : σ[i]? = some (some v)) (h : Q v H) : tVar i σ H Q := ⟨v, e, h⟩
theorem con (h : Q v H) : tC v σ H Q := h
theorem op {r : R2} (h : ta σ H fun x H1 => tb σ H1 fun y H2 => r x y H2 Q) : tOp r ta tb σ H Q := h
theorem un {r : V → Hp → VK → Prop} (h : ta σ H fun x H1 => r x H1 Q) : tUn r ta σ H Q := h
theorem i0 {g : Int → Int → V} {i j : Int} (h : Q (g i j) H) : rI0 g (.int i) (.int j) H Q := ⟨i, j, rfl, rfl, h⟩
theorem i1 {C : Int → Int → Prop} {g : Int → Int → V} {i j : Int} (c : C i j) (h : Q (g i j) H) : rI C g (.int i) (.int j) H Q := ⟨i, j, rfl, rfl, c, h⟩
theorem iu {g : Int → V} {i : Int} (h : Q (g i) H) : rU g (.int i) H Q := ⟨i, rfl, h⟩
theorem eqI {i j : Int} (h : Q (.bl (decide (i = j))) H) : rEq (.int i) (.int j) H Q := ⟨rfl, by rw [show decide (V.int i = V.int j) = decide (i = j) from by simp]; exact h⟩
theorem eqS {i j : Str} (h : Q (.bl (decide (i = j))) H) : rEq (.str i) (.str j) H Q := ⟨rfl, by rw [show decide (V.str i = V.str j) = decide (i = j) from by simp]; exact h⟩
theorem eqB {i j : Bool} (h : Q (.bl (decide (i = j))) H) : rEq (.bl i) (.bl j) H Q := ⟨rfl, by rw [show decide (V.bl i = V.bl j) = decide (i = j) from by simp]; exact h⟩
theorem neI {i j : Int} (h : Q (.bl (!decide (i = j))) H) : rNe (.int i) (.int j) H Q := ⟨rfl, by rw [show decide (V.int i = V.int j) = decide (i = j) from by simp]; exact h⟩
theorem neS {i j : Str} (h : Q (.bl (!decide (i = j))) H) : rNe (.str i) (.str j) H Q := ⟨rfl, by rw [show decide (V.str i = V.str j) = decide (i = j) from by simp]; exact h⟩
theorem isB {a b : Bool} (h : Q (.bl (decide (a = b))) H) : rIsB (.bl a) (.bl b) H Q := ⟨a, b, rfl, rfl, h⟩
theorem name {i : Nat} {N : L2.St → Hp → Prop} (h : N (σ.set i (some v)) H) : gName i v σ H N := h
theorem test {Q : Bool → Hp → Prop} (h : te σ H fun x H' => ∃ k, x = .bl k ∧ Q k H') : tTest te σ H Q := h
theorem tB {Q : Bool → Hp → Prop} (h : te σ H fun x H' => ∃ k, x = .bl k ∧ Q k H') : tB te σ H Q := h
theorem exb {b : Bool} {p : Bool → Prop} (h : p b) : ∃ k, V.bl b = .bl k ∧ p k := ⟨b, rfl, h⟩
theorem exi {b : Int} {p : Int → Prop} (h : p b) : ∃ k, V.int b = .int k ∧ p k := ⟨b, rfl, h⟩
theorem exs {b : Str} {p : Str → Prop} (h : p b) : ∃ k, V.str b = .str k ∧ p k := ⟨b, rfl, h⟩
theorem exr {b : Addr} {p : Addr → Prop} (h : p b) : ∃ k, V.ref b = .ref k ∧ p k := ⟨b, rfl, h⟩
theorem not {c : TT} {Q : Bool → Hp → Prop} (h : c σ H fun b H1 => Q (!b) H1) : tNot c σ H Q := h
theorem and {c d : TT} {Q : Bool → Hp → Prop} (h : c σ H fun b H1 => if b = true then d σ H1 Q else Q false H1) : tAnd c d σ H Q := h
theorem or {c d : TT} {Q : Bool → Hp → Prop} (h : c σ H fun b H1 => if b = true then Q true H1 else d σ H1 Q) : tOr c d σ H Q := h
theorem notV (h : te σ H fun x H1 => ∃ c, x = .bl c ∧ Q (.bl (!c)) H1) : tNotV te σ H Q := h
theorem andV (h : ta σ H fun x H1 => ∃ c, x = .bl c ∧ if c = true then tb σ H1 Q else Q (.bl false) H1) : tAndV ta tb σ H Q := h
theorem orV (h : ta σ H fun x H1 => ∃ c, x = .bl c ∧ if c = true then Q (.bl true) H1 else tb σ H1 Q) : tOrV ta tb σ H Q := h
theorem ifE {c : TT} (h : c σ H fun b H1 => if b = true then ta σ H1 Q else tb σ H1 Q) : tIf c ta tb σ H Q := h
theorem cb {r : List V → Hp → VK → Prop} {t : TA} (h : t σ H fun vs H1 => r vs H1 Q) : tCB r t σ H Q := h
theorem anil {Q : List V → Hp → Prop} (h : Q [] H) : tNil σ H Q := h
theorem acons {tr : TA} {Q : List V → Hp → Prop} (h : te σ H fun x H1 => tr σ H1 fun xs H2 => Q (x :: xs) H2) : tCons te tr σ H Q := h
def CallK (sp : Sp) (dvs : List V) (E : XK) (vs : List V) (H : Hp) (Q : VK) : Prop := sp (vs ++ dvs) H Q E
theorem call {sp : Sp} {dvs : List V} {E : XK} {t : TA} (h : t σ H fun vs H1 => CallK sp dvs E vs H1 Q) : tCall sp dvs E t σ H Q := h
theorem call0 {sp : Sp} {E : XK} {vs : List V} (h : sp vs H Q E) : CallK sp [] E vs H Q := by
  unfold CallK
  rw [List.append_nil]
  exact h
theorem tup {t : TA} (h : t σ H fun xs H1 => xs.length ≤ sizeLine ∧ ∀ p, H1 p = none → Q (.ref p) (upd H1 p (.tup xs))) : tTup t σ H Q := h
theorem lst {t : TA} (h : t σ H fun xs H1 => xs.length ≤ sizeLine ∧ ∀ p, H1 p = none → Q (.ref p) (upd H1 p (.lst xs))) : tLst t σ H Q := h
theorem sl {r : V → Option Int → Option Int → Hp → VK → Prop} {tl th : TO} (h : te σ H fun x H1 => tl σ H1 fun l H2 => th σ H2 fun u H3 => r x l u H3 Q) : tSl r te tl th σ H Q := h
theorem nopart {Q : Option Int → Hp → Prop} (h : Q none H) : tNoPart σ H Q := h
theorem part {Q : Option Int → Hp → Prop} (h : te σ H fun x H1 => ∃ i, x = .int i ∧ Q (some i) H1) : tPart te σ H Q := h
theorem slS {z : Str} {lo hi : Option Int} (e : z.length ≤ sizeLine) (h : Q (.str (cutS z lo hi)) H) : rSlS (.str z) lo hi H Q := ⟨z, rfl, e, h⟩
theorem slL {a : Addr} {xs : List V} {lo hi : Option Int} (e : SqL K H a xs) (h : ∀ p, H p = none → Q (.ref p) (upd H p (.lst (cutV xs lo hi)))) : rSlL K (.ref a) lo hi H Q := ⟨a, xs, rfl, e, h⟩
theorem aug {i : Nat} {ti : TIp} (e : σ[i]? = some (some x)) (h : te σ H fun y H1 => ti x y H1 fun z H2 => D.nx (σ.set i (some z)) H2) : tAug i te ti D σ H := ⟨x, e, h⟩
theorem ipi {f : Int → Int → Int} {i j : Int} (h : Q (.int (f i j)) H) : ipI f (.int i) (.int j) H Q := ⟨i, j, rfl, rfl, h⟩
/-! built-ins by name -/
def rLenS : List V → Hp → VK → Prop := fun xs H Q => ∃ z, xs = [.str z] ∧ z.length ≤ sizeLine ∧ Q (.int z.length) H
def rLenQ (K : PySem.W.Frag) : List V → Hp → VK → Prop := fun xs H Q => ∃ p ys, xs = [.ref p] ∧ (SqL K H p ys ∨ SqT K H p ys) ∧ Q (.int ys.length) H
def rAbs : List V → Hp → VK → Prop := fun xs H Q => ∃ i, xs = [.int i] ∧ Q (.int (if i < 0 then -i else i)) H
def rMin2 : List V → Hp → VK → Prop := fun xs H Q => ∃ i j, xs = [.int i, .int j] ∧ Q (.int (if j < i then j else i)) H
def rMax2 : List V → Hp → VK → Prop := fun xs H Q => ∃ i j, xs = [.int i, .int j] ∧ Q (.int (if j > i then j else i)) H
def rInt1 : List V → Hp → VK → Prop := fun xs H Q => (∃ i, xs = [.int i] ∧ Q (.int i) H) ∨ ∃ k, xs = [.bl k] ∧ Q (.int (if k then 1 else 0)) H
def rAddS : R2 := fun x y H Q => ∃ i j, x = .str i ∧ y = .str j ∧ i.length + j.length ≤ sizeLine ∧ Q (.str (i ++ j)) H
theorem addS {i j : Str} (c : i.length + j.length ≤ sizeLine) (h : Q (.str (i ++ j)) H) : rAddS (.str i) (.str j) H Q := ⟨i, j, rfl, rfl, c, h⟩
theorem lenS {z : Str} (c : z.length ≤ sizeLine) (h : Q (.int z.length) H) : rLenS [.str z] H Q := ⟨z, rfl, c, h⟩
theorem lenL {p : Addr} {xs : List V} (c : SqL K H p xs) (h : Q (.int xs.length) H) : rLenQ K [.ref p] H Q := ⟨p, xs, rfl, .inl c, h⟩
theorem lenT {p : Addr} {xs : List V} (c : SqT K H p xs) (h : Q (.int xs.length) H) : rLenQ K [.ref p] H Q := ⟨p, xs, rfl, .inr c, h⟩
theorem abs {i : Int} (h : Q (.int (if i < 0 then -i else i)) H) : rAbs [.int i] H Q := ⟨i, rfl, h⟩
theorem min2 {i j : Int} (h : Q (.int (if j < i then j else i)) H) : rMin2 [.int i, .int j] H Q := ⟨i, j, rfl, h⟩
theorem max2 {i j : Int} (h : Q (.int (if j > i then j else i)) H) : rMax2 [.int i, .int j] H Q := ⟨i, j, rfl, h⟩
theorem int1 {i : Int} (h : Q (.int i) H) : rInt1 [.int i] H Q := .inl ⟨i, rfl, h⟩
theorem ixL {p : Addr} {xs : List V} {i : Int} (c : SqL K H p xs) (a : atI xs i = some v) (h : Q v H) : rIxL K (.ref p) (.int i) H Q := ⟨p, xs, i, v, rfl, rfl, c, a, h⟩
theorem atI_map {α : Type} {f : α → V} {xs : List α} {d : α} {i : Int} (h0 : 0 ≤ i) (h1 : i < xs.length) : atI (xs.map f) i = some (f (xs.getD i.toNat d)) := by
  have e : i = ((i.toNat : Nat) : Int) := by omega
  have h2 : i.toNat < xs.length := by omega
  rw [e]
  refine atI_nat ?_
  rw [List.getElem?_map, Int.toNat_natCast, List.getElem?_eq_getElem h2, List.getD_eq_getElem?_getD, List.getElem?_eq_getElem h2]
  rfl
theorem ixLI {p : Addr} {xs : List Int} {i : Int} (c : SqL K H p (xs.map V.int)) (h0 : 0 ≤ i) (h1 : i < xs.length) (h : Q (.int (xs.getD i.toNat 0)) H) : rIxL K (.ref p) (.int i) H Q := ⟨p, _, i, _, rfl, rfl, c, atI_map h0 h1, h⟩
theorem lenLm {α : Type} {f : α → V} {p : Addr} {xs : List α} (c : SqL K H p (xs.map f)) (h : Q (.int xs.length) H) : rLenQ K [.ref p] H Q := ⟨p, _, rfl, .inl c, by rw [List.length_map]; exact h⟩
theorem lenTm {α : Type} {f : α → V} {p : Addr} {xs : List α} (c : SqT K H p (xs.map f)) (h : Q (.int xs.length) H) : rLenQ K [.ref p] H Q := ⟨p, _, rfl, .inr c, by rw [List.length_map]; exact h⟩
theorem ixT {p : Addr} {xs : List V} {i : Int} (c : SqT K H p xs) (a : atI xs i = some v) (h : Q v H) : rIxT K (.ref p) (.int i) H Q := ⟨p, xs, i, v, rfl, rfl, c, a, h⟩
theorem ixS {z : Str} {i : Int} {c : Nat} (l : z.length ≤ sizeLine) (a : atI z.cps.toList i = some c) (h : Q (.str ⟨#[c]⟩) H) : rIxS (.str z) (.int i) H Q := ⟨z, i, c, rfl, rfl, l, a, h⟩
theorem bm {T : String} {r : V → List V → Hp → VK → Prop} {t : TA} (h : ta σ H fun x H1 => tyV K T x H1 ∧ t σ H1 fun xs H2 => r x xs H2 Q) : tBM K T r ta t σ H Q := h
theorem bm0 {T : String} {r : V → List V → Hp → VK → Prop} (h : ta σ H fun x H1 => tyV K T x H1 ∧ r x [] H1 Q) : tBM0 K T r ta σ H Q := h
theorem tyL {p : Addr} {xs : List V} {A : Prop} (e : H p = some (.lst xs)) (h : A) : tyV K "list" (.ref p) H ∧ A := ⟨.inl ⟨rfl, _, .inl (.inl e)⟩, h⟩
theorem app {p : Addr} {xs : List V} (e : H p = some (.lst xs)) (c : xs.length < sizeLine) (h : Q .non (upd H p (.lst (xs ++ [y])))) : rAppend (.ref p) [y] H Q := ⟨p, xs, y, rfl, rfl, e, c, h⟩
theorem appI {p : Addr} {xs : List Int} {z : Int} (e : H p = some (.lst (xs.map V.int))) (c : xs.length < 16777216) (h : Q .non (upd H p (.lst ((xs ++ [z]).map V.int)))) : rAppend (.ref p) [.int z] H Q := ⟨p, _, _, rfl, rfl, e, by rw [List.length_map, sizeLine_eq]; exact c, by rw [List.map_append] at h; exact h⟩
theorem appS {p : Addr} {xs : List Str} {z : Str} (e : H p = some (.lst (xs.map V.str))) (c : xs.length < 16777216) (h : Q .non (upd H p (.lst ((xs ++ [z]).map V.str)))) : rAppend (.ref p) [.str z] H Q := ⟨p, _, _, rfl, rfl, e, by rw [List.length_map, sizeLine_eq]; exact c, by rw [List.map_append] at h; exact h⟩
theorem appR {p : Addr} {xs : List Addr} {z : Addr} (e : H p = some (.lst (xs.map V.ref))) (c : xs.length < 16777216) (h : Q .non (upd H p (.lst ((xs ++ [z]).map V.ref)))) : rAppend (.ref p) [.ref z] H Q := ⟨p, _, _, rfl, rfl, e, by rw [List.length_map, sizeLine_eq]; exact c, by rw [List.map_append] at h; exact h⟩
theorem for_ {wi : TI} {g : TG} (h : wi σ H fun J H1 => ∃ W : Nat → Nat → L2.St → Hp → Prop, (∃ m, W 0 m σ H1) ∧ ∀ i m σ H, W i m σ H →
  (J.stop i H ∧ D.nx σ H) ∨ (J.go i H ∧ ∃ N : L2.St → Hp → Prop, (∀ σ' H', N σ' H' → ∃ m', m' < m ∧ W (i + 1) m' σ' H') ∧ ∀ x H', J.yld i H x H' → g x σ H' fun σ2 H2 => t { D with nx := N, ct := N, bk := D.nx } σ2 H2)) : tFor wi g t D σ H := h
theorem rng1 {tas : TA} {R : It → Hp → Prop} (h : tas σ H fun vs H1 => ∃ j : Int, vs = [.int j] ∧ -(2 ^ 62) ≤ j ∧ j < 2 ^ 62 ∧ R (Itr 0 j.toNat) H1) : iRng1 tas σ H R := h
theorem rng2 {tas : TA} {R : It → Hp → Prop} (h : tas σ H fun vs H1 => ∃ i j : Int, vs = [.int i, .int j] ∧ (-(2 ^ 62) ≤ i ∧ i < 2 ^ 62 ∧ -(2 ^ 62) ≤ j ∧ j < 2 ^ 62) ∧ R (Itr i (j - i).toNat) H1) : iRng2 tas σ H R := h
theorem ilst {R : It → Hp → Prop} (h : te σ H fun x H1 => ∃ a, x = .ref a ∧ (∃ xs, SqL K H1 a xs) ∧ R (Itl K a) H1) : iList K te σ H R := h
theorem itup {R : It → Hp → Prop} (h : te σ H fun x H1 => ∃ a, x = .ref a ∧ (∃ xs, SqT K H1 a xs) ∧ R (Itt K a) H1) : iTup K te σ H R := h
theorem lc {wi : TI} {g : TG} {tt : TT} {vs : List Nat} (h : wi σ H fun J H1 => ∀ D, H1 D = none → ∃ W : Nat → Nat → Hp → Prop, (∃ m, W 0 m (upd H1 D (.lst []))) ∧ ∀ i m H, W i m H →
  (J.stop i H ∧ Q (.ref D) H) ∨ (J.go i H ∧ ∃ Nx : Hp → Prop, (∀ H', Nx H' → ∃ m', m' < m ∧ W (i + 1) m' H') ∧ ∀ x H', J.yld i H x H' → g x (wipe σ vs) H' fun σ2 H2 => wipe σ2 vs = wipe σ vs ∧ tt σ2 H2 fun b H3 =>
    if b = true then te σ2 H3 fun y H4 => ∃ acc, H4 D = some (.lst acc) ∧ acc.length < sizeLine ∧ Nx (upd H4 D (.lst (acc ++ [y]))) else Nx H3)) : tLc wi g tt te vs σ H Q := h
theorem yes {Q : Bool → Hp → Prop} (h : Q true H) : tYes σ H Q := h
/-- a new object: the heap behind it by what is known of it -/
structure Ext1 (H H1 : Hp) (p : Addr) (o : HO) : Prop where
  fresh : H p = none
  same : Same H H1
  at_ : H1 p = some o
  off : ∀ b, b ≠ p → H1 b = H b
theorem new {o : HO} {R : Addr → Hp → Prop} (h : ∀ p H1, Ext1 H H1 p o → R p H1) : ∀ p, H p = none → R p (upd H p o) := fun p np =>
  h p _ ⟨np, fun b u e => by rw [upd_ne (ne_of_none e np)]; exact e, upd_same, fun b hb => upd_ne hb⟩
theorem ext1 {p : Addr} {o : HO} (np : H p = none) : Ext1 H (upd H p o) p o := ⟨np, fun b u e => by rw [upd_ne (ne_of_none e np)]; exact e, upd_same, fun b hb => upd_ne hb⟩
/-- a new list or tuple is displayed -/
theorem newD {n : Nat} {o : HO} {R : Addr → Hp → Prop} (c : n ≤ sizeLine) (h : ∀ p H1, Ext1 H H1 p o → R p H1) : n ≤ sizeLine ∧ ∀ p, H p = none → R p (upd H p o) := ⟨c, new h⟩
/-- an object that H0 does not know is written -/
theorem Same.put {H0 H1 : Hp} {p : Addr} {o : HO} (s : Same H0 H1) (n : H0 p = none) : Same H0 (upd H1 p o) := fun b u e => by rw [upd_ne (ne_of_none e n)]; exact s b u e
theorem made_same {H H' : Hp} {x dx C : Addr} {fs : List (Str × V)} (nx : H x = none) (ndx : H dx = none) (off : ∀ b, b ≠ x → H' b = (upd (upd H dx (.own x)) x (.ins C dx fs)) b) : Same H H' := fun b o e => by
  rw [off b (ne_of_none e nx), upd_ne (ne_of_none e nx), upd_ne (ne_of_none e ndx)]
  exact e
theorem and2 {p1 p2 : Prop} [Decidable p1] [Decidable p2] {tb : TE} (hb : p1 → ∀ Q' : VK, Q' (.bl (decide p2)) H → tb σ H Q') (h : Q (.bl (decide (p1 ∧ p2))) H) : if decide p1 = true then tb σ H Q else Q (.bl false) H := by
  by_cases h1 : p1
  · rw [decide_eq_true h1]
    refine hb h1 _ ?_
    rw [show decide (p1 ∧ p2) = decide p2 from decide_eq_decide.mpr ⟨fun h => h.2, fun h => ⟨h1, h⟩⟩] at h
    exact h
  · rw [decide_eq_false h1]
    rw [show decide (p1 ∧ p2) = false from decide_eq_false fun z => h1 z.1] at h
    exact h
theorem and3 {p1 p2 p3 : Prop} [Decidable p1] [Decidable p2] [Decidable p3] {tb tc : TE} (hb : p1 → ∀ Q' : VK, Q' (.bl (decide p2)) H → tb σ H Q') (hc : p1 → p2 → ∀ Q' : VK, Q' (.bl (decide p3)) H → tc σ H Q')
    (h : Q (.bl (decide (p1 ∧ p2 ∧ p3))) H) : if decide p1 = true then tAndV tb tc σ H Q else Q (.bl false) H :=
  and2 (p2 := p2 ∧ p3) (fun h1 Q' q => hb h1 _ ⟨_, rfl, and2 (hc h1) q⟩) h
theorem ok2 : (2 : Int) ^ 62 = 4611686018427387904 := by decide
theorem iteD {p : Prop} [Decidable p] {A B : Prop} (h1 : p → A) (h2 : ¬ p → B) : if decide p = true then A else B := by
  by_cases h : p
  · rw [decide_eq_true h]; exact h1 h
  · rw [decide_eq_false h]; exact h2 h
theorem iteDn {p : Prop} [Decidable p] {A B : Prop} (h1 : ¬ p → A) (h2 : p → B) : if (!decide p) = true then A else B := by
  by_cases h : p
  · rw [decide_eq_true h]; exact h2 h
  · rw [decide_eq_false h]; exact h1 h
theorem iteB {b : Bool} {A B : Prop} (h1 : b = true → A) (h2 : b = false → B) : if b = true then A else B := by
  cases b
  · exact h2 rfl
  · exact h1 rfl
theorem iteNB {b : Bool} {A B : Prop} (h1 : b = false → A) (h2 : b = true → B) : if (!b) = true then A else B := by
  cases b
  · exact h1 rfl
  · exact h2 rfl
theorem cmulR {i j : Int} (h1 : -18446744073709551616 < j) (h2 : j < 18446744073709551616) : CMul i j := .inr ⟨by simpa using h1, by simpa using h2⟩
theorem cmulL {i j : Int} (h1 : -18446744073709551616 < i) (h2 : i < 18446744073709551616) : CMul i j := .inl ⟨by simpa using h1, by simpa using h2⟩
theorem cdiv {i j : Int} (h1 : 0 < j) (h2 : j < 1073741824) : CDiv i j := ⟨h1, h2⟩
theorem cpow {i j : Int} (h1 : 0 ≤ j) (h2 : j ≤ 1000000) (h3 : i.natAbs < 18446744073709551616) : CPow i j := ⟨h1, h2, by simpa using h3⟩
theorem line {n : Nat} (h : n ≤ 16777216) : n ≤ sizeLine := by rw [sizeLine_eq]; exact h
theorem lineL {n : Nat} (h : n < 16777216) : n < sizeLine := by rw [sizeLine_eq]; exact h
theorem itT {A B : Prop} (h : A) : if true = true then A else B := h
theorem itNtt {A B : Prop} (h : B) : if (!(true == true)) = true then A else B := h
theorem itNff {A B : Prop} (h : B) : if (!(false == false)) = true then A else B := h
theorem ittt {A B : Prop} (h : A) : if (true == true) = true then A else B := h
theorem itff {A B : Prop} (h : A) : if (false == false) = true then A else B := h
theorem itNF {A B : Prop} (h : A) : if (!false) = true then A else B := h
theorem itNT {A B : Prop} (h : B) : if (!true) = true then A else B := h
theorem itF {A B : Prop} (h : B) : if false = true then A else B := h
variable {X : Cx}
theorem cr_lenS : CallR X (.builtin "len") rLenS := call_len_str
theorem cr_lenQ : CallR X (.builtin "len") (rLenQ X.K) := call_len_seq
theorem cr_abs : CallR X (.builtin "abs") rAbs := call_abs
theorem cr_min2 (hc : X.calm = true) : CallR X (.builtin "min") rMin2 := call_min2 hc
theorem cr_max2 (hc : X.calm = true) : CallR X (.builtin "max") rMax2 := call_max2 hc
theorem cr_int1 : CallR X (.type "int") rInt1 := call_int1
theorem op_addS : OpR X (binaryOp .Add) rAddS := op_add_str
end
end Gx
/-! ### further rules of mine -/
namespace Gx
open PySem PySem.Spec PyProof.Rows L2
section
variable {X : Cx} {C g f : Addr} {bmB : List Value} {B newId initId : String} {CX : CXT} {k n : Nat} {fd : FuncData} {ps : List Str} {sp : Sp} {o fe e : Expr} {es : List Expr} {ta tf : TE} {t : TA} {m : Str} {p pos apos : Pos}
/-- X() of an own exception class -/
theorem pmk_own0 {x : Str} (F : ExcBaseFacts B newId initId bmB) (q : PySem.W.excIn X.K C bmB newId = true) (gC : X.mg x = some (.ref C)) (kC : PySem.W.keepIn X.K (.ref C) = true) (r : Raises X (.ref C)) (hg : Gl X x)
    (hdb : (x == ("__debug__" : Str)) = false := by decide) : PMk X (.Call (.Name x p) [] [] pos) (fun _ H Q => Q (.ref C) none H) := by
  intro pins s σ H Q I h
  refine wpAny_Call_Name_kw (ld_glob I hg gC ?_ hdb)
  refine PySem.W.callWith_K0 (first := []) I.kIn kC ?_
  obtain ⟨bm, N, nm, qn, bs, hdct, sn, sub, ab, col, dd, k0, k1, k2, k3, k5, mN, hC, hN, hni, T⟩ := exc_obj I.kIn q
  refine wpAny_call_exc_subT F T hC hN hni (fun h' e hm => ?_) (by show 0 ≤ sizeLine; rw [sizeLine_eq]; omega)
  exact mk_of I hm r h (I.hok.gone hm.new)
/-- o.m(e, ..) where what is raised is wished for at the slots -/
def tMethS (C : Addr) (m : Str) (sp : Sp) (E : L2.St → XK) (ta : TE) (t : TA) : TE := fun σ H Q => ta σ H fun x H1 => ∃ a dx fs, x = .ref a ∧ H1 a = some (.ins C dx fs) ∧ fs.lookup m = none ∧
  t σ H1 fun vs H2 => sp (x :: vs) H2 Q (E σ)
theorem pe_methS {E : L2.St → XK} {pl : Sem Bool} (he : PE X o ta) (c : Cls X.K C) (hm : Meth X.K C m f) (F : FnOk X.prog X.w X.K X.mg X.base CX k f fd ps sp) (hr : Room k X.A) (hb : Binds X.K fd ps []) (hx : ∀ σ, PassesAt CX X σ (E σ)) (ha : PA X (e :: es) t)
    (hst : starEach (e :: es) X.env = (false, eval e X.env) :: starEach es X.env := by rfl) (hpl : (backTo pos (starEach es X.env)).any (·.1) = false := by rfl)
    (ht : eval (.Call (.Attribute o m apos) (e :: es) [] pos) X.env = (do
      let ov ← eval o X.env
      standAt apos.atName
      let (f, first) ← holding [ov] (getMethod ov m pl)
      callWith pos f first (backTo pos (starEach (e :: es) X.env)) (backToKw pos (keywordEach [] X.env))) := by rfl) :
    PE X (.Call (.Attribute o m apos) (e :: es) [] pos) (tMethS C m sp E ta t) := by
  refine ⟨fun pins s σ H Q I h => ?_⟩
  refine PySem.W.methodCall_KW (pl := pl) (thn (he.run pins s σ H _ I h) fun u s1 ⟨x, H1, I1, rx, a, dx, fs, ex, ea, l, q⟩ => ?_) ht
  subst ex
  obtain rfl : u = Value.ref a := rx
  refine getmeth_ok I1 ea c hm l ?_
  refine PySem.W.callWith_K (first := [.ref a]) (h₀ := X.base) I.ok.mod.kin hm.kp (thn (ha.run pos pins s1 σ H1 _ I1 q) fun us s2 ⟨vs, H2, I2, r, q2⟩ => ⟨I2.kIn, ?_⟩) hst hpl
  exact run_fnS (us := .ref a :: us) (vs := .ref a :: vs) F hr hb (hx σ) I2 (.cons rfl r) q2
/-- the instance's call: its node's code -/
theorem code_fnS {E : L2.St → XK} {pins : List (Addr × Obj)} {σ : L2.St} {H : Hp} {s : Shared} {Q : VK} {us : List Value} {vs : List V} (F : FnOk X.prog X.w X.K X.mg X.base CX k f fd ps sp) (hr : Room k X.A) (hb : Binds X.K fd ps []) (hx : PassesAt CX X σ (E σ))
    (I : Inv X pins σ H s) (r : Vals vs us) (h : sp vs H Q (E σ)) : codeAny (model X.prog X.w) X.A (.call (.ref f) ⟨us, []⟩) (wants (EP X pins σ Q) X.xe) s := by
  have hl : us.length = ps.length := by rw [← r.length]; exact F.len _ _ _ _ h
  have b := hb s us I.kIn (by rw [List.append_nil]; exact hl)
  rw [List.append_nil] at b
  refine codeAny_mono (F.run X.A X.stack s H ⟨us, []⟩ us vs Q (E σ) hr I.env0 b r h) fun r s' hq => ?_
  cases r with
  | error e => exact hx pins H s e s' I hq
  | ok fl =>
    cases fl with
    | ret u => exact I.after hq
    | next => exact False.elim hq
    | brk => exact False.elim hq
    | cont => exact False.elim hq
/-- o(e, ..), o an instance of C with __call__ -/
def tCallOS (C : Addr) (sp : Sp) (E : L2.St → XK) (tf : TE) (t : TA) : TE := fun σ H Q => tf σ H fun y H1 => ∃ a, y = V.ref a ∧ t σ H1 fun vs H2 => (∃ dx fs, H2 a = some (.ins C dx fs)) ∧ sp (V.ref a :: vs) H2 Q (E σ)
theorem pe_callOS {E : L2.St → XK} (hf : PE X fe tf) (c : StX.CallO X.K C g) (F : FnOk X.prog X.w X.K X.mg X.base CX k g fd ps sp) (hr : Room k X.A) (hb : Binds X.K fd ps []) (hx : ∀ σ, PassesAt CX X σ (E σ)) (ha : PA X (e :: es) t)
    (ht : eval (.Call fe (e :: es) [] pos) X.env = (do callWith pos (← eval fe X.env) [] (backTo pos (starEach (e :: es) X.env)) (backToKw pos (keywordEach [] X.env))) := by rfl)
    (he : starEach (e :: es) X.env = (false, eval e X.env) :: starEach es X.env := by rfl) (hpl : (backTo pos (starEach es X.env)).any (·.1) = false := by rfl) : PE X (.Call fe (e :: es) [] pos) (tCallOS C sp E tf t) := by
  refine ⟨fun pins s σ H Q I h => ?_⟩
  refine Call_ (thn (hf.run pins s σ H _ I h) fun u s1 ⟨y, H1, I1, ry, a, ey, q⟩ => ?_) ht
  subst ey
  obtain rfl : u = Value.ref a := ry
  refine StX.callO_with (thn (ha.run pos pins s1 σ H1 _ I1 q) fun us s2 ⟨vs, H2, I2, r, ⟨dx, fs, hi⟩, q2⟩ => ?_) he hpl
  obtain ⟨ox, od, J, hd⟩ := StX.insC_at (X := X) I2 (.inr ⟨dx, fs, hi⟩)
  refine ⟨⟨C, ox, od, J, hd⟩, wpAny_call (PySem.W.kco_code I2.kIn J hd c.at_ c.fn c.fi ?_)⟩
  exact code_fnS (us := .ref a :: us) (vs := .ref a :: vs) F hr hb (hx σ) I2 (.cons rfl r) q2
/-- x == y, x an instance of C with its own __eq__ -/
def rEqO (C : Addr) (sp : Sp) (K : PySem.W.Frag) : R2 := fun x y H Q => ∃ a dx fs tb, x = .ref a ∧ H a = some (.ins C dx fs) ∧ TyX K H y tb ∧ PySem.W.notFirst K C tb = true ∧ sp [x, y] H (fun v H' => (∃ b, v = .bl b) ∧ Q v H') E0
theorem looks_ty {K : PySem.W.Frag} {M : Model} {pins : List (Addr × Obj)} {σ : L2.St} {H : Hp} {s : Shared} {x : V} {u t : Value} (I : Inv X pins σ H s) (rx : RelV x u) (ty : TyX X.K H x t) : PySem.W.Looks M s.heap (typeOf u) t := by
  obtain ⟨P, Z, p, _⟩ := kit_of I rx ty
  exact Z.ty _ _ I.kIn p
theorem op_eqO (c : PySem.W.findIn X.K (.ref C) "__eq__" = some (some (.ref f))) (hf : PySem.W.isFn X.K (.ref f) = true) (F : FnOk X.prog X.w X.K X.mg X.base CX0 k f fd ps sp) (hr : Room k X.A) (hb : Binds X.K fd ps []) : OpR X (compareOp .Eq) (rEqO C sp X.K) := by
  intro pins s σ H x y v u Q I rx ry hq
  obtain ⟨a, dx, fs, tb, rfl, ha, ty, nf, q⟩ := hq
  obtain rfl : v = Value.ref a := rx
  show wpAny (model X.prog X.w) X.A (richCompare .Eq (.ref a) u) (EP X pins σ Q) X.xe s
  obtain ⟨mA, J, _⟩ := ins_get I.hok ha
  obtain ⟨od, J, _⟩ := J.look
  obtain ⟨m, hF⟩ := I.fr
  refine PySem.W.cmp_K (op := .Eq) (tb := tb) hr.units0 hF I.ok.mod.kin J (looks_ty (K := X.K) I ry ty) nf c hf ?_
  refine wpAny_mono (run_fn (us := [.ref a, u]) (vs := [.ref a, y]) (ds := []) (dvs := []) F hr hb .nil pass0 I (.cons rfl (.cons ry .nil)) q) (fun z s' hz => ?_) fun _ _ h => h
  obtain ⟨v', H', I', rv, ⟨b, rfl⟩, q'⟩ := hz
  cases rv
  exact ⟨V.bl b, H', I', rfl, q'⟩
/-- isinstance(e, T), e the exception that the suite holds -/
def rIsE' (K : PySem.W.Frag) (D a : Addr) (cls : Value) (d : Option Addr) : List V → Hp → VK → Prop := fun xs H Q => cls = .ref D ∧ d = none ∧ rIsE K D a xs H Q
theorem cr_isE {a D : Addr} {cls : Value} {d : Option Addr} {oe : Obj} {pn : List (Addr × Obj)} (C : ExcC X.K D) (hz : Zc cls d oe) (hf : ∃ vs, oe.data = .fields vs) : CallR (X.suite a ((a, oe) :: pn)) (.builtin "isinstance") (rIsE' X.K D a cls d) := by
  intro pins s σ H xs us Q I r h
  obtain ⟨rfl, rfl, h⟩ := h
  exact call_isE C hz hf pins s σ H xs us Q I r h
theorem isi {K : PySem.W.Frag} {H : Hp} {Q : VK} {x c : V} {t u : Value} {b : Bool} (hc : ClsV c u) (ht : TyX K H x t) (e : PySem.W.kitOne K t u = some b) (h : Q (.bl b) H) : rIsi K [x, c] H Q := ⟨x, c, t, u, b, rfl, hc, ht, e, h⟩
theorem isi_ii {K : PySem.W.Frag} {H : Hp} {Q : VK} {i : Int} (h : Q (.bl true) H) : rIsi K [.int i, .ty "int"] H Q := isi (.ty _) (.base (.int i)) (kit_ty (by decide +kernel)) h
theorem isi_ib {K : PySem.W.Frag} {H : Hp} {Q : VK} {i : Int} (h : Q (.bl false) H) : rIsi K [.int i, .ty "bool"] H Q := isi (.ty _) (.base (.int i)) (kit_ty (by decide +kernel)) h
theorem isi_is {K : PySem.W.Frag} {H : Hp} {Q : VK} {i : Int} (h : Q (.bl false) H) : rIsi K [.int i, .ty "str"] H Q := isi (.ty _) (.base (.int i)) (kit_ty (by decide +kernel)) h
theorem isi_it {K : PySem.W.Frag} {H : Hp} {Q : VK} {i : Int} (h : Q (.bl false) H) : rIsi K [.int i, .ty "tuple"] H Q := isi (.ty _) (.base (.int i)) (kit_ty (by decide +kernel)) h
theorem isi_ss {K : PySem.W.Frag} {H : Hp} {Q : VK} {z : Str} (h : Q (.bl true) H) : rIsi K [.str z, .ty "str"] H Q := isi (.ty _) (.base (.str z)) (kit_ty (by decide +kernel)) h
theorem isi_si {K : PySem.W.Frag} {H : Hp} {Q : VK} {z : Str} (h : Q (.bl false) H) : rIsi K [.str z, .ty "int"] H Q := isi (.ty _) (.base (.str z)) (kit_ty (by decide +kernel)) h
theorem isi_st {K : PySem.W.Frag} {H : Hp} {Q : VK} {z : Str} (h : Q (.bl false) H) : rIsi K [.str z, .ty "tuple"] H Q := isi (.ty _) (.base (.str z)) (kit_ty (by decide +kernel)) h
theorem isi_bi {K : PySem.W.Frag} {H : Hp} {Q : VK} {z : Bool} (h : Q (.bl true) H) : rIsi K [.bl z, .ty "int"] H Q := isi (.ty _) (.base (.bl z)) (kit_ty (by decide +kernel)) h
theorem isi_bb {K : PySem.W.Frag} {H : Hp} {Q : VK} {z : Bool} (h : Q (.bl true) H) : rIsi K [.bl z, .ty "bool"] H Q := isi (.ty _) (.base (.bl z)) (kit_ty (by decide +kernel)) h
theorem isi_ni {K : PySem.W.Frag} {H : Hp} {Q : VK} (h : Q (.bl false) H) : rIsi K [.non, .ty "int"] H Q := isi (.ty _) (.base .non) (kit_ty (by decide +kernel)) h
theorem isi_ns {K : PySem.W.Frag} {H : Hp} {Q : VK} (h : Q (.bl false) H) : rIsi K [.non, .ty "str"] H Q := isi (.ty _) (.base .non) (kit_ty (by decide +kernel)) h
theorem isi_nt {K : PySem.W.Frag} {H : Hp} {Q : VK} (h : Q (.bl false) H) : rIsi K [.non, .ty "tuple"] H Q := isi (.ty _) (.base .non) (kit_ty (by decide +kernel)) h
/-- fields -/
theorem sfld {K : PySem.W.Frag} {H : Hp} {D : Ends} {σ : L2.St} {ta tv : TE} {f : Str} (h : tv σ H fun y H1 => ta σ H1 fun x H2 => ∃ a C dx fs, x = .ref a ∧ H2 a = some (.ins C dx fs) ∧ Cls K C ∧ NoAttr K C f ∧ fs.length < 1000 ∧ D.nx σ (upd H2 a (.ins C dx (putF f y fs)))) : sFld K ta tv f D σ H := h
theorem meth {H : Hp} {Q : VK} {σ : L2.St} {ta : TE} {C : Addr} {m : Str} {sp : Sp} {E : XK} {t : TA} (h : ta σ H fun x H1 => ∃ a dx fs, x = .ref a ∧ H1 a = some (.ins C dx fs) ∧ fs.lookup m = none ∧ t σ H1 fun vs H2 => CallK sp [] E (x :: vs) H2 Q) : tMeth C m sp [] E ta t σ H Q := h
theorem make {H : Hp} {Q : VK} {σ : L2.St} {C : Addr} {sp : Sp} {E : XK} {t : TA} (h : t σ H fun vs H1 => ∀ x dx, H1 x = none → H1 dx = none → dx ≠ x → sp (.ref x :: vs) (upd (upd H1 dx (.own x)) x (.ins C dx [])) (fun v H2 => v = .non ∧ Q (.ref x) H2) E) : tMake C sp [] E t σ H Q := by
  unfold tMake
  have e : ∀ vs : List V, vs ++ [] = vs := fun vs => List.append_nil vs
  simp only [e]
  exact h
theorem fld {K : PySem.W.Frag} {H : Hp} {Q : VK} {σ : L2.St} {ta : TE} {f : Str} (h : ta σ H fun x H1 => ∃ a C dx fs v, x = .ref a ∧ H1 a = some (.ins C dx fs) ∧ Cls K C ∧ NoAttr K C f ∧ fs.lookup f = some v ∧ Q v H1) : tFld K ta f σ H Q := h
theorem passLS {X : Cx} : ∀ σ, PassesAt (L2.CX X.prog X.w) X σ E0 := fun σ pins H s e s' I c => passL pins σ H s e s' I c
theorem prop {H : Hp} {Q : VK} {σ : L2.St} {ta : TE} {C : Addr} {sp : Sp} {E : XK} (h : ta σ H fun x H1 => ∃ a dx fs, x = .ref a ∧ H1 a = some (.ins C dx fs) ∧ sp [.ref a] H1 Q E) : tProp C sp [] E ta σ H Q := h
theorem callO {H : Hp} {Q : VK} {σ : L2.St} {tf : TE} {t : TA} {C : Addr} {sp : Sp} {E : L2.St → XK} (h : tf σ H fun y H1 => ∃ a, y = V.ref a ∧ t σ H1 fun vs H2 => (∃ dx fs, H2 a = some (.ins C dx fs)) ∧ sp (V.ref a :: vs) H2 Q (E σ)) : tCallOS C sp E tf t σ H Q := h
theorem methS {H : Hp} {Q : VK} {σ : L2.St} {ta : TE} {C : Addr} {m : Str} {sp : Sp} {E : L2.St → XK} {t : TA} (h : ta σ H fun x H1 => ∃ a dx fs, x = .ref a ∧ H1 a = some (.ins C dx fs) ∧ fs.lookup m = none ∧ t σ H1 fun vs H2 => sp (x :: vs) H2 Q (E σ)) : tMethS C m sp E ta t σ H Q := h
end
end Gx
/-! ### texts as lists of code points -/
namespace Gx
open PySem PySem.Spec PyProof.Rows L2 TL
def mkS (l : List Nat) : Str := ⟨l.toArray⟩
theorem mkS_len (l : List Nat) : (mkS l).length = l.length := by simp [mkS, Str.length]
theorem mkS_tl (l : List Nat) : (mkS l).cps.toList = l := rfl
theorem mkS_app (a b : List Nat) : mkS a ++ mkS b = mkS (a ++ b) := by
  refine ext_tl ?_
  rw [tl_append]
  rfl
theorem mkS_inj {a b : List Nat} : mkS a = mkS b ↔ a = b := ⟨fun h => by
  have := congrArg (fun x => x.cps.toList) h
  exact this, fun h => by rw [h]⟩
theorem mkS_of (x : Str) : x = mkS x.cps.toList := rfl
theorem ofS (s : String) : Str.ofString s = mkS (s.toList.map Char.toNat) := ext_tl (tl_ofString s)
theorem sIx_int (n d : Nat) {i : Int} (h : 0 ≤ i) : HT.sIx n d (some i) = min i.toNat n := by
  have e : i = ((i.toNat : Nat) : Int) := by omega
  rw [e, HT.sIx_nat, Int.toNat_natCast]
theorem cut_A (l : List Nat) {j : Int} (h : 0 ≤ j) : cutS (mkS l) none (some j) = mkS (l.take j.toNat) := by
  show mkS (((mkS l).cps.toList.drop _).take _) = _
  rw [mkS_tl, mkS_len, HT.sIx_none, sIx_int _ _ h, List.drop_zero, Nat.sub_zero, ← List.take_eq_take_min]
theorem cut_B (l : List Nat) {i : Int} (h : 0 ≤ i) : cutS (mkS l) (some i) none = mkS (l.drop i.toNat) := by
  show mkS (((mkS l).cps.toList.drop _).take _) = _
  rw [mkS_tl, mkS_len, HT.sIx_none, sIx_int _ _ h]
  congr 1
  rw [List.take_of_length_le (by rw [List.length_drop]; omega)]
  by_cases c : i.toNat ≤ l.length
  · rw [Nat.min_eq_left c]
  · rw [Nat.min_eq_right (by omega), List.drop_length, List.drop_eq_nil_of_le (by omega)]
theorem cut_C (l : List Nat) {i j : Int} (h : 0 ≤ i) (h' : 0 ≤ j) : cutS (mkS l) (some i) (some j) = mkS ((l.take j.toNat).drop i.toNat) := by
  show mkS (((mkS l).cps.toList.drop _).take _) = _
  rw [mkS_tl, mkS_len, sIx_int _ _ h, sIx_int _ _ h']
  congr 1
  rw [List.drop_take]
  by_cases c : i.toNat ≤ l.length
  · rw [Nat.min_eq_left c]
    by_cases d : j.toNat ≤ l.length
    · rw [Nat.min_eq_left d]
    · rw [Nat.min_eq_right (by omega), List.take_of_length_le (by rw [List.length_drop]; omega), List.take_of_length_le (by rw [List.length_drop]; omega)]
  · rw [Nat.min_eq_right (a := i.toNat) (by omega), List.drop_length, List.drop_eq_nil_of_le (by omega)]
    simp
section
variable {σ : L2.St} {H : Hp} {Q : VK} {te to : TE} {K : PySem.W.Frag}
theorem conE {x y : Str} (e : x = y) (h : Q (.str y) H) : tC (.str x) σ H Q := by rw [e]; exact h
theorem sA {l : List Nat} {j : Int} (h0 : 0 ≤ j) (c : l.length ≤ 16777216) (h : Q (.str (mkS (l.take j.toNat))) H) : rSlS (.str (mkS l)) none (some j) H Q := ⟨_, rfl, by rw [mkS_len, sizeLine_eq]; exact c, by rw [cut_A l h0]; exact h⟩
theorem sB {l : List Nat} {j : Int} (h0 : 0 ≤ j) (c : l.length ≤ 16777216) (h : Q (.str (mkS (l.drop j.toNat))) H) : rSlS (.str (mkS l)) (some j) none H Q := ⟨_, rfl, by rw [mkS_len, sizeLine_eq]; exact c, by rw [cut_B l h0]; exact h⟩
theorem sC {l : List Nat} {i j : Int} (h0 : 0 ≤ i) (h1 : 0 ≤ j) (c : l.length ≤ 16777216) (h : Q (.str (mkS ((l.take j.toNat).drop i.toNat))) H) : rSlS (.str (mkS l)) (some i) (some j) H Q := ⟨_, rfl, by rw [mkS_len, sizeLine_eq]; exact c, by rw [cut_C l h0 h1]; exact h⟩
theorem addM {a b : List Nat} (c : a.length + b.length ≤ 16777216) (h : Q (.str (mkS (a ++ b))) H) : rAddS (.str (mkS a)) (.str (mkS b)) H Q := ⟨_, _, rfl, rfl, by rw [mkS_len, mkS_len, sizeLine_eq]; exact c, by rw [mkS_app]; exact h⟩
theorem lenM {l : List Nat} (c : l.length ≤ 16777216) (h : Q (.int l.length) H) : rLenS [.str (mkS l)] H Q := ⟨_, rfl, by rw [mkS_len, sizeLine_eq]; exact c, by rw [mkS_len]; exact h⟩
theorem eqM {a b : List Nat} (h : Q (.bl (decide (a = b))) H) : rEq (.str (mkS a)) (.str (mkS b)) H Q := ⟨rfl, by
  rw [show decide (V.str (mkS a) = V.str (mkS b)) = decide (a = b) from by simp [mkS_inj]]
  exact h⟩
theorem neM {a b : List Nat} (h : Q (.bl (!decide (a = b))) H) : rNe (.str (mkS a)) (.str (mkS b)) H Q := ⟨rfl, by
  rw [show decide (V.str (mkS a) = V.str (mkS b)) = decide (a = b) from by simp [mkS_inj]]
  exact h⟩
theorem ixM {l : List Nat} {i : Int} (h0 : 0 ≤ i) (h1 : i < l.length) (c : l.length ≤ 16777216) (h : Q (.str (mkS [l.getD i.toNat 0])) H) : rIxS (.str (mkS l)) (.int i) H Q := by
  have e : i = ((i.toNat : Nat) : Int) := by omega
  have h2 : i.toNat < l.length := by omega
  refine ⟨_, i, l.getD i.toNat 0, rfl, rfl, by rw [mkS_len, sizeLine_eq]; exact c, ?_, h⟩
  rw [mkS_tl, e]
  refine atI_nat ?_
  rw [Int.toNat_natCast, List.getElem?_eq_getElem h2, List.getD_eq_getElem?_getD, List.getElem?_eq_getElem h2]
  rfl
/-- sep.join(xs) -/
def rJoin (K : PySem.W.Frag) : V → List V → Hp → VK → Prop := fun x xs H Q => ∃ a p, ∃ ys : List Str, x = .str a ∧ xs = [.ref p] ∧ (SqL K H p (ys.map V.str) ∨ SqT K H p (ys.map V.str)) ∧
      (ys.map (·.length)).sum + ys.length * a.length ≤ 16777216 ∧ Q (.str (Txt.join a ys)) H
theorem m1 {r : V → List V → Hp → VK → Prop} (h : to σ H fun x H1 => (∃ a, x = .str a) ∧ te σ H1 fun y H2 => r x [y] H2 Q) : tM1 r to te σ H Q := h
theorem isS {z : Str} {A : Prop} (h : A) : (∃ a, V.str z = .str a) ∧ A := ⟨⟨z, rfl⟩, h⟩
theorem joinL_nil : ∀ ls : List (List Nat), joinL [] ls = ls.flatten
  | [] => rfl
  | [p] => by simp [joinL]
  | p :: q :: r => by
    show p ++ ([] ++ joinL [] (q :: r)) = _
    rw [joinL_nil (q :: r)]
    rfl
theorem sum_len : ∀ ls : List (List Nat), ((ls.map mkS).map (·.length)).sum = ls.flatten.length
  | [] => rfl
  | p :: r => by
    rw [List.map_cons, List.map_cons, List.sum_cons, sum_len r, mkS_len, List.flatten_cons, List.length_append]
/-- ''.join(xs) -/
theorem join0 {ls : List (List Nat)} {p : Addr} (e : SqL K H p ((ls.map mkS).map V.str)) (c : ls.flatten.length ≤ 16777216) (h : Q (.str (mkS ls.flatten)) H) : rJoin K (.str (mkS [])) [.ref p] H Q := by
  refine ⟨mkS [], p, ls.map mkS, rfl, rfl, .inl e, ?_, ?_⟩
  · rw [sum_len, mkS_len]
    simpa using c
  · rw [show Txt.join (mkS []) (ls.map mkS) = mkS ls.flatten from ?_]
    · exact h
    · refine ext_tl ?_
      rw [join_eq, tl_join, List.map_map]
      show joinL [] (ls.map (fun l => l)) = ls.flatten
      rw [List.map_id', joinL_nil]
end
section
variable {X : Cx} {o e : Expr} {to te : TE} {pos apos : Pos}
theorem pe_joinG (ho : PE X o to) (he : PE X e te) (hs : starEach [e] X.env = [(false, eval e X.env)] := by rfl) (hbase : attributeBase o "join" X.env (eval o X.env) = eval o X.env := by rfl) (hline : (apos.endLine == pos.line) = true := by rfl) :
    PE X (.Call (.Attribute o "join" apos) [e] [] pos) (tM1 (rJoin X.K) to te) := pe_join ho he hs hbase hline
end
end Gx
local macro_rules | `(tactic| walk_at "side") => `(tactic| first | assumption | omega | exact Gx.cmulR (by omega) (by omega) | exact Gx.cmulL (by omega) (by omega) | exact Gx.cdiv (by omega) (by omega) | exact Gx.cpow (by omega) (by omega) (by omega) | exact Gx.line (by omega) | exact Gx.lineL (by omega) | (simp only [List.length_append, List.length_take, List.length_drop, List.length_cons, List.length_nil, List.length_map, List.length_range, List.length_reverse]; omega) | exact Int.emod_nonneg _ (by omega) | exact Int.emod_lt_of_pos _ (by omega))
local macro_rules | `(tactic| walk_at "hp") => `(tactic| first | assumption | exact upd_same | exact SqL.of (by assumption) | exact SqT.of (by assumption) | exact SqL.of upd_same | exact SqT.of upd_same)
local macro_rules | `(tactic| walk_at "g1") => `(tactic| first
  | with_reducible refine Gx.seq ?_ | with_reducible refine Gx.nx ?_ | with_reducible refine Gx.asg ?_ | with_reducible refine Gx.op ?_
  | ((with_reducible refine' Gx.var ?ka ?kb); (case ka => exact rfl))
  | walk_at "con"
  | with_reducible refine Gx.con ?_ | with_reducible refine Gx.i0 ?_
  | ((with_reducible refine' Gx.i1 ?ka ?kb); (case ka => walk_at "side"))
  | with_reducible refine Gx.eqM ?_ | with_reducible refine Gx.neM ?_
  | with_reducible refine Gx.eqI ?_ | with_reducible refine Gx.eqS ?_ | with_reducible refine Gx.neI ?_ | with_reducible refine Gx.neS ?_ | with_reducible refine Gx.eqB ?_ | with_reducible refine Gx.isB ?_
  | ((with_reducible refine Gx.name ?_); try dsimp only [List.set])
  | with_reducible refine Gx.exb ?_ | with_reducible refine Gx.exi ?_ | with_reducible refine Gx.exs ?_ | with_reducible refine Gx.exr ?_
  | with_reducible refine Gx.test ?_ | with_reducible refine Gx.tB ?_ | with_reducible refine Gx.cb ?_ | with_reducible refine Gx.acons ?_ | with_reducible refine Gx.anil ?_
  | with_reducible refine Gx.call ?_ | with_reducible refine Gx.call0 ?_
  | with_reducible refine Gx.ifs ?_ | with_reducible refine Gx.ret ?_ | with_reducible refine Gx.rt ?_ | with_reducible refine Gx.next ?_ | with_reducible refine Gx.drop ?_
  | with_reducible refine Gx.not ?_ | with_reducible refine Gx.and ?_ | with_reducible refine Gx.or ?_ | with_reducible refine Gx.notV ?_ | with_reducible refine Gx.andV ?_ | with_reducible refine Gx.orV ?_ | with_reducible refine Gx.ifE ?_
  | with_reducible refine Gx.itT ?_ | with_reducible refine Gx.itF ?_ | with_reducible refine Gx.itNF ?_ | with_reducible refine Gx.itNT ?_ | with_reducible refine Gx.ittt ?_ | with_reducible refine Gx.itff ?_ | with_reducible refine Gx.itNtt ?_ | with_reducible refine Gx.itNff ?_
  | with_reducible refine Gx.sl ?_ | with_reducible refine Gx.nopart ?_ | with_reducible refine Gx.part ?_
  | ((with_reducible refine' Gx.sA ?ka ?kc ?kb); (case ka => walk_at "side"); (case kc => walk_at "side")) | ((with_reducible refine' Gx.sB ?ka ?kc ?kb); (case ka => walk_at "side"); (case kc => walk_at "side"))
  | ((with_reducible refine' Gx.sC ?ka ?kd ?kc ?kb); (case ka => walk_at "side"); (case kc => walk_at "side"); (case kd => walk_at "side"))
  | ((with_reducible refine' Gx.addM ?ka ?kb); (case ka => walk_at "side")) | ((with_reducible refine' Gx.lenM ?ka ?kb); (case ka => walk_at "side"))
  | ((with_reducible refine' Gx.ixM ?ka ?kd ?kc ?kb); (case ka => walk_at "side"); (case kc => walk_at "side"); (case kd => walk_at "side"))
  | with_reducible refine Gx.isi_ii ?_ | with_reducible refine Gx.isi_ib ?_ | with_reducible refine Gx.isi_is ?_ | with_reducible refine Gx.isi_it ?_ | with_reducible refine Gx.isi_ss ?_ | with_reducible refine Gx.isi_si ?_ | with_reducible refine Gx.isi_st ?_ | with_reducible refine Gx.isi_bi ?_ | with_reducible refine Gx.isi_bb ?_ | with_reducible refine Gx.isi_ni ?_ | with_reducible refine Gx.isi_ns ?_ | with_reducible refine Gx.isi_nt ?_
  | with_reducible refine Gx.sfld ?_ | with_reducible refine Gx.meth ?_ | with_reducible refine Gx.make ?_
  | with_reducible refine Gx.prop ?_ | with_reducible refine Gx.callO ?_ | with_reducible refine Gx.methS ?_
  | with_reducible refine Gx.fld ?_ | with_reducible refine Gx.m1 ?_ | with_reducible refine Gx.isS ?_
  | ((with_reducible refine' Gx.slS ?ka ?kb); (case ka => walk_at "side"))
  | with_reducible refine Gx.un ?_ | with_reducible refine Gx.iu ?_
  | ((with_reducible refine' Gx.aug ?ka ?kb); (case ka => exact rfl)) | ((with_reducible refine Gx.ipi ?_); try dsimp only [List.set])
  | ((with_reducible refine' Gx.addS ?ka ?kb); (case ka => walk_at "side")) | ((with_reducible refine' Gx.lenS ?ka ?kb); (case ka => walk_at "side"))
  | ((with_reducible refine' Gx.lenLm ?ka ?kb); (case ka => walk_at "hp")) | ((with_reducible refine' Gx.lenTm ?ka ?kb); (case ka => walk_at "hp"))
  | ((with_reducible refine' Gx.ixLI ?ka ?kc ?kd ?kb); (case ka => walk_at "hp"); (case kc => walk_at "side"); (case kd => walk_at "side"))
  | ((with_reducible refine' Gx.lenL ?ka ?kb); (case ka => walk_at "hp")) | ((with_reducible refine' Gx.lenT ?ka ?kb); (case ka => walk_at "hp"))
  | with_reducible refine Gx.abs ?_ | with_reducible refine Gx.min2 ?_ | with_reducible refine Gx.max2 ?_ | with_reducible refine Gx.int1 ?_
  | with_reducible refine Gx.bm ?_ | with_reducible refine Gx.bm0 ?_ | ((with_reducible refine' Gx.tyL ?ka ?kb); (case ka => walk_at "hp"))
  | ((with_reducible refine' Gx.appI ?ka ?kc ?kb); (case ka => walk_at "hp"); (case kc => walk_at "side")) | ((with_reducible refine' Gx.appS ?ka ?kc ?kb); (case ka => walk_at "hp"); (case kc => walk_at "side")) | ((with_reducible refine' Gx.appR ?ka ?kc ?kb); (case ka => walk_at "hp"); (case kc => walk_at "side"))
  | ((with_reducible refine' Gx.app ?ka ?kc ?kb); (case ka => walk_at "hp"); (case kc => walk_at "side"))
  | with_reducible refine Gx.for_ ?_ | with_reducible refine Gx.rng1 ?_ | with_reducible refine Gx.rng2 ?_ | with_reducible refine Gx.ilst ?_ | with_reducible refine Gx.itup ?_ | with_reducible refine Gx.lc ?_ | with_reducible refine Gx.yes ?_
  | with_reducible refine Gx.tup ?_ | with_reducible refine Gx.lst ?_ | with_reducible refine Gx.retN ?_ | with_reducible refine Gx.brk ?_ | with_reducible refine Gx.cont ?_ | with_reducible refine Gx.bk ?_ | with_reducible refine Gx.ct ?_)
local macro_rules | `(tactic| walk_at "g") => `(tactic| repeat walk_at "g1")
namespace K44
open PySem PySem.Spec PyProof.Rows L2
def topS (i : Nat) : Stmt := PySem.Challenge.pw_textsputback_k44_splices.main.body.getD i (.Pass ⟨0, 0, 0, 0⟩)
theorem bt_abs : bootBuiltins "abs" = some (.builtin "abs") := by decide +kernel
theorem bt_bool : bootBuiltins "bool" = some (.type "bool") := by decide +kernel
theorem bt_int : bootBuiltins "int" = some (.type "int") := by decide +kernel
theorem bt_isinstance : bootBuiltins "isinstance" = some (.builtin "isinstance") := by decide +kernel
theorem bt_len : bootBuiltins "len" = some (.builtin "len") := by decide +kernel
theorem bt_min : bootBuiltins "min" = some (.builtin "min") := by decide +kernel
theorem bt_str : bootBuiltins "str" = some (.type "str") := by decide +kernel
theorem ks0 : Str.ofString "" = Gx.mkS [] := by decide +kernel
theorem ks1 : Str.ofString ":;abc" = Gx.mkS [58, 59, 97, 98, 99] := by decide +kernel
theorem ks2 : Str.ofString "a" = Gx.mkS [97] := by decide +kernel
abbrev s_Splice_init : Stmt := inClass (topS 4) 0
theorem st_Splice_init {x0 x1 x2 x3 : V} : L2.start ["self", "start", "end", "new"] [x0, x1, x2, x3] = [some x0, some x1, some x2, some x3] := rfl
theorem sc_Splice_init : FnScope ["self", "start", "end", "new"] ["self", "start", "end", "new"] (defScope s_Splice_init) := ⟨rfl, rfl, rfl, by decide +kernel, rfl, by decide +kernel, by decide +kernel⟩
abbrev s_Splice_longer : Stmt := inClass (topS 4) 1
theorem st_Splice_longer {x0 : V} : L2.start ["self"] [x0] = [some x0] := rfl
theorem sc_Splice_longer : FnScope ["self"] ["self"] (defScope s_Splice_longer) := ⟨rfl, rfl, rfl, by decide +kernel, rfl, by decide +kernel, by decide +kernel⟩
abbrev s_Splice_eq : Stmt := inClass (topS 4) 2
theorem st_Splice_eq {x0 x1 : V} : L2.start ["self", "other"] [x0, x1] = [some x0, some x1] := rfl
theorem sc_Splice_eq : FnScope ["self", "other"] ["self", "other"] (defScope s_Splice_eq) := ⟨rfl, rfl, rfl, by decide +kernel, rfl, by decide +kernel, by decide +kernel⟩
abbrev s_Splice_fits : Stmt := inClass (topS 4) 3
theorem st_Splice_fits {x0 x1 : V} : L2.start ["self", "text"] [x0, x1] = [some x0, some x1] := rfl
theorem sc_Splice_fits : FnScope ["self", "text"] ["self", "text"] (defScope s_Splice_fits) := ⟨rfl, rfl, rfl, by decide +kernel, rfl, by decide +kernel, by decide +kernel⟩
abbrev s_Splice_call : Stmt := inClass (topS 4) 4
theorem st_Splice_call {x0 x1 : V} : L2.start ["self", "text"] [x0, x1] = [some x0, some x1] := rfl
theorem sc_Splice_call : FnScope ["self", "text"] ["self", "text"] (defScope s_Splice_call) := ⟨rfl, rfl, rfl, by decide +kernel, rfl, by decide +kernel, by decide +kernel⟩
abbrev s_Splice_back : Stmt := inClass (topS 4) 5
theorem st_Splice_back {x0 x1 : V} : L2.start ["self", "text"] [x0, x1] = [some x0, some x1] := rfl
theorem sc_Splice_back : FnScope ["self", "text"] ["self", "text"] (defScope s_Splice_back) := ⟨rfl, rfl, rfl, by decide +kernel, rfl, by decide +kernel, by decide +kernel⟩
abbrev s_between : Stmt := topS 5
theorem st_between {x0 x1 : V} : L2.start ["old", "new", "most", "front", "at", "behind"] [x0, x1] = [some x0, some x1, none, none, none, none] := rfl
theorem sc_between : FnScope ["old", "new", "most", "front", "at", "behind"] ["old", "new"] (defScope s_between) := ⟨rfl, rfl, rfl, by decide +kernel, rfl, by decide +kernel, by decide +kernel⟩
abbrev s__law_mix : Stmt := topS 7
theorem st__law_mix {x0 x1 : V} : L2.start ["cell", "k", "first", "second"] [x0, x1] = [some x0, some x1, none, none] := rfl
theorem sc__law_mix : FnScope ["cell", "k", "first", "second"] ["cell", "k"] (defScope s__law_mix) := ⟨rfl, rfl, rfl, by decide +kernel, rfl, by decide +kernel, by decide +kernel⟩
abbrev s__law_stream : Stmt := topS 8
theorem st__law_stream {x0 x1 : V} : L2.start ["script", "many", "rest", "found", "k", "cell"] [x0, x1] = [some x0, some x1, none, none, none, none] := rfl
theorem sc__law_stream : FnScope ["script", "many", "rest", "found", "k", "cell"] ["script", "many"] (defScope s__law_stream) := ⟨rfl, rfl, rfl, by decide +kernel, rfl, by decide +kernel, by decide +kernel⟩
abbrev s__law_pick : Stmt := topS 9
theorem st__law_pick {x0 x1 x2 : V} : L2.start ["numbers", "at", "many"] [x0, x1, x2] = [some x0, some x1, some x2] := rfl
theorem sc__law_pick : FnScope ["numbers", "at", "many"] ["numbers", "at", "many"] (defScope s__law_pick) := ⟨rfl, rfl, rfl, by decide +kernel, rfl, by decide +kernel, by decide +kernel⟩
abbrev s__law_says : Stmt := topS 10
theorem st__law_says {x0 x1 : V} : L2.start ["answer", "due"] [x0, x1] = [some x0, some x1] := rfl
theorem sc__law_says : FnScope ["answer", "due"] ["answer", "due"] (defScope s__law_says) := ⟨rfl, rfl, rfl, by decide +kernel, rfl, by decide +kernel, by decide +kernel⟩
abbrev s__law_whole : Stmt := topS 11
theorem st__law_whole {x0 x1 : V} : L2.start ["answer", "due"] [x0, x1] = [some x0, some x1] := rfl
theorem sc__law_whole : FnScope ["answer", "due"] ["answer", "due"] (defScope s__law_whole) := ⟨rfl, rfl, rfl, by decide +kernel, rfl, by decide +kernel, by decide +kernel⟩
abbrev s__law_text : Stmt := topS 12
theorem st__law_text {x0 x1 x2 : V} : L2.start ["numbers", "at", "many", "k"] [x0, x1, x2] = [some x0, some x1, some x2, none] := rfl
theorem sc__law_text : FnScope ["numbers", "at", "many", "k"] ["numbers", "at", "many"] (defScope s__law_text) := ⟨rfl, rfl, rfl, by decide +kernel, rfl, by decide +kernel, by decide +kernel⟩
abbrev s__law_is : Stmt := topS 13
theorem st__law_is {x0 x1 x2 x3 : V} : L2.start ["splice", "start", "end", "new"] [x0, x1, x2, x3] = [some x0, some x1, some x2, some x3] := rfl
theorem sc__law_is : FnScope ["splice", "start", "end", "new"] ["splice", "start", "end", "new"] (defScope s__law_is) := ⟨rfl, rfl, rfl, by decide +kernel, rfl, by decide +kernel, by decide +kernel⟩
abbrev s__law_call_raises : Stmt := topS 14
theorem st__law_call_raises {x0 x1 : V} : L2.start ["splice", "text", "e"] [x0, x1] = [some x0, some x1, none] := rfl
theorem sc__law_call_raises : FnScope ["splice", "text", "e"] ["splice", "text"] (defScope s__law_call_raises) := ⟨rfl, rfl, rfl, by decide +kernel, rfl, by decide +kernel, by decide +kernel⟩
abbrev s__law_back_raises : Stmt := topS 15
theorem st__law_back_raises {x0 x1 : V} : L2.start ["splice", "text", "e"] [x0, x1] = [some x0, some x1, none] := rfl
theorem sc__law_back_raises : FnScope ["splice", "text", "e"] ["splice", "text"] (defScope s__law_back_raises) := ⟨rfl, rfl, rfl, by decide +kernel, rfl, by decide +kernel, by decide +kernel⟩
abbrev s__law_splice_fits : Stmt := topS 16
theorem st__law_splice_fits {x0 x1 x2 x3 : V} : L2.start ["start", "end", "new", "text", "splice", "due", "after", "back"] [x0, x1, x2, x3] = [some x0, some x1, some x2, some x3, none, none, none, none] := rfl
theorem sc__law_splice_fits : FnScope ["start", "end", "new", "text", "splice", "due", "after", "back"] ["start", "end", "new", "text"] (defScope s__law_splice_fits) := ⟨rfl, rfl, rfl, by decide +kernel, rfl, by decide +kernel, by decide +kernel⟩
abbrev s__law_equals : Stmt := topS 17
theorem st__law_equals {x0 x1 x2 : V} : L2.start ["start", "end", "new", "splice", "other"] [x0, x1, x2] = [some x0, some x1, some x2, none, none] := rfl
theorem sc__law_equals : FnScope ["start", "end", "new", "splice", "other"] ["start", "end", "new"] (defScope s__law_equals) := ⟨rfl, rfl, rfl, by decide +kernel, rfl, by decide +kernel, by decide +kernel⟩
abbrev s__law_between_fits : Stmt := topS 18
theorem st__law_between_fits {x0 x1 : V} : L2.start ["old", "new", "most", "front", "k", "behind", "splice"] [x0, x1] = [some x0, some x1, none, none, none, none, none] := rfl
theorem sc__law_between_fits : FnScope ["old", "new", "most", "front", "k", "behind", "splice"] ["old", "new"] (defScope s__law_between_fits) := ⟨rfl, rfl, rfl, by decide +kernel, rfl, by decide +kernel, by decide +kernel⟩
abbrev s__law_wide : Stmt := topS 19
theorem st__law_wide {x0 x1 x2 : V} : L2.start ["numbers", "at", "many"] [x0, x1, x2] = [some x0, some x1, some x2] := rfl
theorem sc__law_wide : FnScope ["numbers", "at", "many"] ["numbers", "at", "many"] (defScope s__law_wide) := ⟨rfl, rfl, rfl, by decide +kernel, rfl, by decide +kernel, by decide +kernel⟩
abbrev s_law : Stmt := topS 20
theorem st_law {x0 : V} : L2.start ["script", "numbers", "size", "text", "start", "end", "new", "front", "behind", "other"] [x0] = [some x0, none, none, none, none, none, none, none, none, none] := rfl
theorem sc_law : FnScope ["script", "numbers", "size", "text", "start", "end", "new", "front", "behind", "other"] ["script"] (defScope s_law) := ⟨rfl, rfl, rfl, by decide +kernel, rfl, by decide +kernel, by decide +kernel⟩
structure Txt (K : PySem.W.Frag) (mg : Str → Option Value) where
  a_LensError : Addr
  g_LensError : mg "LensError" = some (.ref a_LensError)
  k_LensError : PySem.W.keepIn K (.ref a_LensError) = true
  x_LensError : PySem.W.excIn K a_LensError [.type "ValueError", .type "Exception", .type "BaseException", .type "object"] "ValueError.__new__" = true
  bP_LensError : PySem.W.subIn K (.ref a_LensError) (.type "BaseException") = some true
  tP_LensError : PySem.W.typeIn K (.ref a_LensError) = some (.type "type")
  iP_LensError : PySem.W.isClsIn K a_LensError = true
  a_BadSplice : Addr
  g_BadSplice : mg "BadSplice" = some (.ref a_BadSplice)
  k_BadSplice : PySem.W.keepIn K (.ref a_BadSplice) = true
  x_BadSplice : PySem.W.excIn K a_BadSplice [.type "ValueError", .type "Exception", .type "BaseException", .type "object"] "ValueError.__new__" = true
  bP_BadSplice : PySem.W.subIn K (.ref a_BadSplice) (.type "BaseException") = some true
  tP_BadSplice : PySem.W.typeIn K (.ref a_BadSplice) = some (.type "type")
  iP_BadSplice : PySem.W.isClsIn K a_BadSplice = true
  a_Splice : Addr
  g_Splice : mg "Splice" = some (.ref a_Splice)
  k_Splice : PySem.W.keepIn K (.ref a_Splice) = true
  c_Splice : Cls K a_Splice
  n_Splice_start : NoAttr K a_Splice "start"
  n_Splice_end : NoAttr K a_Splice "end"
  n_Splice_new : NoAttr K a_Splice "new"
  ha_Splice : PySem.W.findIn K (.ref a_Splice) "__class__" = some (some (.builtin "object.__class__"))
  hm_Splice : PySem.W.mroIn K a_Splice (.type "object") = some true
  hn_ : PySem.W.specialIn K (.builtin "object.__class__") "__get__" = some (some (.builtin "getset_descriptor.__get__"))
  htk_ : PySem.W.takesIn K (.builtin "object.__class__") = some true
  f_Splice_init : Addr
  fd_Splice_init : FuncData
  F_Splice_init : Fun K "__init__" "Splice.__init__" s_Splice_init f_Splice_init fd_Splice_init
  b_Splice_init : Binds K fd_Splice_init ["self", "start", "end", "new"] []
  m_Splice_init : Meth K a_Splice "__init__" f_Splice_init
  M_Splice : Mk K a_Splice f_Splice_init
  f_Splice_longer : Addr
  fd_Splice_longer : FuncData
  F_Splice_longer : Fun K "longer" "Splice.longer" s_Splice_longer f_Splice_longer fd_Splice_longer
  b_Splice_longer : Binds K fd_Splice_longer ["self"] []
  p_Splice_longer : Addr
  pr_Splice_longer : PropOf K a_Splice "longer" p_Splice_longer f_Splice_longer
  f_Splice_eq : Addr
  fd_Splice_eq : FuncData
  F_Splice_eq : Fun K "__eq__" "Splice.__eq__" s_Splice_eq f_Splice_eq fd_Splice_eq
  b_Splice_eq : Binds K fd_Splice_eq ["self", "other"] []
  m_Splice_eq : Meth K a_Splice "__eq__" f_Splice_eq
  f_Splice_fits : Addr
  fd_Splice_fits : FuncData
  F_Splice_fits : Fun K "fits" "Splice.fits" s_Splice_fits f_Splice_fits fd_Splice_fits
  b_Splice_fits : Binds K fd_Splice_fits ["self", "text"] []
  m_Splice_fits : Meth K a_Splice "fits" f_Splice_fits
  f_Splice_call : Addr
  fd_Splice_call : FuncData
  F_Splice_call : Fun K "__call__" "Splice.__call__" s_Splice_call f_Splice_call fd_Splice_call
  b_Splice_call : Binds K fd_Splice_call ["self", "text"] []
  m_Splice_call : Meth K a_Splice "__call__" f_Splice_call
  f_Splice_back : Addr
  fd_Splice_back : FuncData
  F_Splice_back : Fun K "back" "Splice.back" s_Splice_back f_Splice_back fd_Splice_back
  b_Splice_back : Binds K fd_Splice_back ["self", "text"] []
  m_Splice_back : Meth K a_Splice "back" f_Splice_back
  f_between : Addr
  fd_between : FuncData
  F_between : Fun K "between" "between" s_between f_between fd_between
  b_between : Binds K fd_between ["old", "new"] []
  g_between : mg "between" = some (.ref f_between)
  f__law_mix : Addr
  fd__law_mix : FuncData
  F__law_mix : Fun K "_law_mix" "_law_mix" s__law_mix f__law_mix fd__law_mix
  b__law_mix : Binds K fd__law_mix ["cell", "k"] []
  g__law_mix : mg "_law_mix" = some (.ref f__law_mix)
  f__law_stream : Addr
  fd__law_stream : FuncData
  F__law_stream : Fun K "_law_stream" "_law_stream" s__law_stream f__law_stream fd__law_stream
  b__law_stream : Binds K fd__law_stream ["script", "many"] []
  g__law_stream : mg "_law_stream" = some (.ref f__law_stream)
  f__law_pick : Addr
  fd__law_pick : FuncData
  F__law_pick : Fun K "_law_pick" "_law_pick" s__law_pick f__law_pick fd__law_pick
  b__law_pick : Binds K fd__law_pick ["numbers", "at", "many"] []
  g__law_pick : mg "_law_pick" = some (.ref f__law_pick)
  f__law_says : Addr
  fd__law_says : FuncData
  F__law_says : Fun K "_law_says" "_law_says" s__law_says f__law_says fd__law_says
  b__law_says : Binds K fd__law_says ["answer", "due"] []
  g__law_says : mg "_law_says" = some (.ref f__law_says)
  f__law_whole : Addr
  fd__law_whole : FuncData
  F__law_whole : Fun K "_law_whole" "_law_whole" s__law_whole f__law_whole fd__law_whole
  b__law_whole : Binds K fd__law_whole ["answer", "due"] []
  g__law_whole : mg "_law_whole" = some (.ref f__law_whole)
  f__law_text : Addr
  fd__law_text : FuncData
  F__law_text : Fun K "_law_text" "_law_text" s__law_text f__law_text fd__law_text
  b__law_text : Binds K fd__law_text ["numbers", "at", "many"] []
  g__law_text : mg "_law_text" = some (.ref f__law_text)
  f__law_is : Addr
  fd__law_is : FuncData
  F__law_is : Fun K "_law_is" "_law_is" s__law_is f__law_is fd__law_is
  b__law_is : Binds K fd__law_is ["splice", "start", "end", "new"] []
  g__law_is : mg "_law_is" = some (.ref f__law_is)
  f__law_call_raises : Addr
  fd__law_call_raises : FuncData
  F__law_call_raises : Fun K "_law_call_raises" "_law_call_raises" s__law_call_raises f__law_call_raises fd__law_call_raises
  b__law_call_raises : Binds K fd__law_call_raises ["splice", "text"] []
  g__law_call_raises : mg "_law_call_raises" = some (.ref f__law_call_raises)
  f__law_back_raises : Addr
  fd__law_back_raises : FuncData
  F__law_back_raises : Fun K "_law_back_raises" "_law_back_raises" s__law_back_raises f__law_back_raises fd__law_back_raises
  b__law_back_raises : Binds K fd__law_back_raises ["splice", "text"] []
  g__law_back_raises : mg "_law_back_raises" = some (.ref f__law_back_raises)
  f__law_splice_fits : Addr
  fd__law_splice_fits : FuncData
  F__law_splice_fits : Fun K "_law_splice_fits" "_law_splice_fits" s__law_splice_fits f__law_splice_fits fd__law_splice_fits
  b__law_splice_fits : Binds K fd__law_splice_fits ["start", "end", "new", "text"] []
  g__law_splice_fits : mg "_law_splice_fits" = some (.ref f__law_splice_fits)
  f__law_equals : Addr
  fd__law_equals : FuncData
  F__law_equals : Fun K "_law_equals" "_law_equals" s__law_equals f__law_equals fd__law_equals
  b__law_equals : Binds K fd__law_equals ["start", "end", "new"] []
  g__law_equals : mg "_law_equals" = some (.ref f__law_equals)
  f__law_between_fits : Addr
  fd__law_between_fits : FuncData
  F__law_between_fits : Fun K "_law_between_fits" "_law_between_fits" s__law_between_fits f__law_between_fits fd__law_between_fits
  b__law_between_fits : Binds K fd__law_between_fits ["old", "new"] []
  g__law_between_fits : mg "_law_between_fits" = some (.ref f__law_between_fits)
  f__law_wide : Addr
  fd__law_wide : FuncData
  F__law_wide : Fun K "_law_wide" "_law_wide" s__law_wide f__law_wide fd__law_wide
  b__law_wide : Binds K fd__law_wide ["numbers", "at", "many"] []
  g__law_wide : mg "_law_wide" = some (.ref f__law_wide)
  f_law : Addr
  fd_law : FuncData
  F_law : Fun K "law" "law" s_law f_law fd_law
  b_law : Binds K fd_law ["script"] []
  g_law : mg "law" = some (.ref f_law)
  bt_law : ∀ (s : Shared) (v : Value), BindsTo s fd_law ⟨[v], []⟩ [("script", v)]
  z_abs : mg "abs" = none
  z_bool : mg "bool" = none
  z_int : mg "int" = none
  z_isinstance : mg "isinstance" = none
  z_len : mg "len" = none
  z_min : mg "min" = none
  z_range : mg "range" = none
  z_str : mg "str" = none
  ks_str : PySem.W.kitOne K (.type "str") (.ref a_Splice) = some false
  ks_tup : PySem.W.kitOne K (.type "tuple") (.ref a_Splice) = some false
  ss_str : PySem.W.subIn K (.type "str") (.ref a_Splice) = some false
  ss_tup : PySem.W.subIn K (.type "tuple") (.ref a_Splice) = some false
  fi_Splice : PySem.W.fnIn K f_Splice_call = true
  ecg : PySem.W.findIn K (.ref a_BadSplice) "__getattribute__" = some (some (.builtin "BaseException.__getattribute__"))
  eck : PySem.W.findIn K (.ref a_BadSplice) "__getattr__" = some none
  ecd : PySem.W.hasDictIn K a_BadSplice = true
  eca : PySem.W.findIn K (.ref a_BadSplice) "__class__" = some (some (.builtin "object.__class__"))
  ecm : PySem.W.mroIn K a_BadSplice (.type "object") = some true
  em_bl : PySem.W.exmOne K (.ref a_BadSplice) (.ref a_LensError) = some true
theorem txt_mk {K : PySem.W.Frag} {h : Heap} {mg : Str → Option Value} (X : K.In h) (G : h.Ns mainGlobals mg) {a_LensError a_BadSplice a_Splice f_Splice_init f_Splice_longer p_Splice_longer f_Splice_eq f_Splice_fits f_Splice_call f_Splice_back f_between f__law_mix f__law_stream f__law_pick f__law_says f__law_whole f__law_text f__law_is f__law_call_raises f__law_back_raises f__law_splice_fits f__law_equals f__law_between_fits f__law_wide f_law : Addr}
    {oc_Splice_init kV_Splice_init dc_Splice_init pm_Splice_init cd_Splice_init ct_Splice_init : Value} {od_Splice_init an_Splice_init : Option Addr} {sl_Splice_init : Array (Option Value)} {pe_Splice_longer : List Value} {oc_Splice_longer kV_Splice_longer dc_Splice_longer pm_Splice_longer cd_Splice_longer ct_Splice_longer : Value} {od_Splice_longer an_Splice_longer : Option Addr} {sl_Splice_longer : Array (Option Value)} {oc_Splice_eq kV_Splice_eq dc_Splice_eq pm_Splice_eq cd_Splice_eq ct_Splice_eq : Value} {od_Splice_eq an_Splice_eq : Option Addr} {sl_Splice_eq : Array (Option Value)} {oc_Splice_fits kV_Splice_fits dc_Splice_fits pm_Splice_fits cd_Splice_fits ct_Splice_fits : Value} {od_Splice_fits an_Splice_fits : Option Addr} {sl_Splice_fits : Array (Option Value)} {oc_Splice_call kV_Splice_call dc_Splice_call pm_Splice_call cd_Splice_call ct_Splice_call : Value} {od_Splice_call an_Splice_call : Option Addr} {sl_Splice_call : Array (Option Value)} {oc_Splice_back kV_Splice_back dc_Splice_back pm_Splice_back cd_Splice_back ct_Splice_back : Value} {od_Splice_back an_Splice_back : Option Addr} {sl_Splice_back : Array (Option Value)} {oc_between kV_between dc_between pm_between cd_between ct_between : Value} {od_between an_between : Option Addr} {sl_between : Array (Option Value)} {oc__law_mix kV__law_mix dc__law_mix pm__law_mix cd__law_mix ct__law_mix : Value} {od__law_mix an__law_mix : Option Addr} {sl__law_mix : Array (Option Value)} {oc__law_stream kV__law_stream dc__law_stream pm__law_stream cd__law_stream ct__law_stream : Value} {od__law_stream an__law_stream : Option Addr} {sl__law_stream : Array (Option Value)} {oc__law_pick kV__law_pick dc__law_pick pm__law_pick cd__law_pick ct__law_pick : Value} {od__law_pick an__law_pick : Option Addr} {sl__law_pick : Array (Option Value)} {oc__law_says kV__law_says dc__law_says pm__law_says cd__law_says ct__law_says : Value} {od__law_says an__law_says : Option Addr} {sl__law_says : Array (Option Value)} {oc__law_whole kV__law_whole dc__law_whole pm__law_whole cd__law_whole ct__law_whole : Value} {od__law_whole an__law_whole : Option Addr} {sl__law_whole : Array (Option Value)} {oc__law_text kV__law_text dc__law_text pm__law_text cd__law_text ct__law_text : Value} {od__law_text an__law_text : Option Addr} {sl__law_text : Array (Option Value)} {oc__law_is kV__law_is dc__law_is pm__law_is cd__law_is ct__law_is : Value} {od__law_is an__law_is : Option Addr} {sl__law_is : Array (Option Value)} {oc__law_call_raises kV__law_call_raises dc__law_call_raises pm__law_call_raises cd__law_call_raises ct__law_call_raises : Value} {od__law_call_raises an__law_call_raises : Option Addr} {sl__law_call_raises : Array (Option Value)} {oc__law_back_raises kV__law_back_raises dc__law_back_raises pm__law_back_raises cd__law_back_raises ct__law_back_raises : Value} {od__law_back_raises an__law_back_raises : Option Addr} {sl__law_back_raises : Array (Option Value)} {oc__law_splice_fits kV__law_splice_fits dc__law_splice_fits pm__law_splice_fits cd__law_splice_fits ct__law_splice_fits : Value} {od__law_splice_fits an__law_splice_fits : Option Addr} {sl__law_splice_fits : Array (Option Value)} {oc__law_equals kV__law_equals dc__law_equals pm__law_equals cd__law_equals ct__law_equals : Value} {od__law_equals an__law_equals : Option Addr} {sl__law_equals : Array (Option Value)} {oc__law_between_fits kV__law_between_fits dc__law_between_fits pm__law_between_fits cd__law_between_fits ct__law_between_fits : Value} {od__law_between_fits an__law_between_fits : Option Addr} {sl__law_between_fits : Array (Option Value)} {oc__law_wide kV__law_wide dc__law_wide pm__law_wide cd__law_wide ct__law_wide : Value} {od__law_wide an__law_wide : Option Addr} {sl__law_wide : Array (Option Value)} {oc_law kV_law dc_law pm_law cd_law ct_law : Value} {od_law an_law : Option Addr} {sl_law : Array (Option Value)}
    (ga_LensError : PySem.W.nsIn K mainGlobals "LensError" = some (some (.ref a_LensError)))
    (k_LensError : PySem.W.keepIn K (.ref a_LensError) = true)
    (x_LensError : PySem.W.excIn K a_LensError [.type "ValueError", .type "Exception", .type "BaseException", .type "object"] "ValueError.__new__" = true)
    (bP_LensError : PySem.W.subIn K (.ref a_LensError) (.type "BaseException") = some true)
    (tP_LensError : PySem.W.typeIn K (.ref a_LensError) = some (.type "type"))
    (iP_LensError : PySem.W.isClsIn K a_LensError = true)
    (ga_BadSplice : PySem.W.nsIn K mainGlobals "BadSplice" = some (some (.ref a_BadSplice)))
    (k_BadSplice : PySem.W.keepIn K (.ref a_BadSplice) = true)
    (x_BadSplice : PySem.W.excIn K a_BadSplice [.type "ValueError", .type "Exception", .type "BaseException", .type "object"] "ValueError.__new__" = true)
    (bP_BadSplice : PySem.W.subIn K (.ref a_BadSplice) (.type "BaseException") = some true)
    (tP_BadSplice : PySem.W.typeIn K (.ref a_BadSplice) = some (.type "type"))
    (iP_BadSplice : PySem.W.isClsIn K a_BadSplice = true)
    (ga_Splice : PySem.W.nsIn K mainGlobals "Splice" = some (some (.ref a_Splice)))
    (k_Splice : PySem.W.keepIn K (.ref a_Splice) = true)
    (pg_Splice : PySem.W.plainGet K a_Splice Str.empty = true)
    (hd_Splice : PySem.W.hasDictIn K a_Splice = true)
    (po_Splice : PySem.W.plainOver K a_Splice = true)
    (sa_Splice : PySem.W.findIn K (.ref a_Splice) "__setattr__" = some (some (.builtin "object.__setattr__")))
    (mk_Splice : PySem.W.makesIn K a_Splice = true)
    (n_Splice_start : PySem.W.findIn K (.ref a_Splice) "start" = some none)
    (n_Splice_end : PySem.W.findIn K (.ref a_Splice) "end" = some none)
    (n_Splice_new : PySem.W.findIn K (.ref a_Splice) "new" = some none)
    (ha_Splice : PySem.W.findIn K (.ref a_Splice) "__class__" = some (some (.builtin "object.__class__")))
    (hm_Splice : PySem.W.mroIn K a_Splice (.type "object") = some true)
    (hn_ : PySem.W.specialIn K (.builtin "object.__class__") "__get__" = some (some (.builtin "getset_descriptor.__get__")))
    (htk_ : PySem.W.takesIn K (.builtin "object.__class__") = some true)
    (ga_Splice_init : PySem.W.findIn K (.ref a_Splice) "__init__" = some (some (.ref f_Splice_init)))
    (i_Splice_init : PySem.W.isFn K (.ref f_Splice_init) = true)
    (l_Splice_init : K.lookup f_Splice_init = some ⟨oc_Splice_init, od_Splice_init, .func (PySem.W.fnOf "__init__" "Splice.__init__" (defArgs s_Splice_init) (defBody s_Splice_init) (defScope s_Splice_init) .none kV_Splice_init dc_Splice_init pm_Splice_init an_Splice_init cd_Splice_init ct_Splice_init), sl_Splice_init⟩)
    (cc_Splice_init : PySem.W.codeIn K cd_Splice_init "Splice.__init__" = true)
    (k_Splice_init : PySem.W.keepIn K (.ref f_Splice_init) = true)
    (pa_Splice_longer : PySem.W.findIn K (.ref a_Splice) "longer" = some (some (.ref p_Splice_longer)))
    (pb_Splice_longer : PySem.W.specialIn K (.ref p_Splice_longer) "__get__" = some (some (.builtin "property.__get__")))
    (pc_Splice_longer : PySem.W.takesIn K (.ref p_Splice_longer) = some true)
    (pd_Splice_longer : PySem.W.recIn K p_Splice_longer "property" = some (.ref f_Splice_longer :: pe_Splice_longer))
    (l_Splice_longer : K.lookup f_Splice_longer = some ⟨oc_Splice_longer, od_Splice_longer, .func (PySem.W.fnOf "longer" "Splice.longer" (defArgs s_Splice_longer) (defBody s_Splice_longer) (defScope s_Splice_longer) .none kV_Splice_longer dc_Splice_longer pm_Splice_longer an_Splice_longer cd_Splice_longer ct_Splice_longer), sl_Splice_longer⟩)
    (cc_Splice_longer : PySem.W.codeIn K cd_Splice_longer "Splice.longer" = true)
    (k_Splice_longer : PySem.W.keepIn K (.ref f_Splice_longer) = true)
    (ga_Splice_eq : PySem.W.findIn K (.ref a_Splice) "__eq__" = some (some (.ref f_Splice_eq)))
    (i_Splice_eq : PySem.W.isFn K (.ref f_Splice_eq) = true)
    (l_Splice_eq : K.lookup f_Splice_eq = some ⟨oc_Splice_eq, od_Splice_eq, .func (PySem.W.fnOf "__eq__" "Splice.__eq__" (defArgs s_Splice_eq) (defBody s_Splice_eq) (defScope s_Splice_eq) .none kV_Splice_eq dc_Splice_eq pm_Splice_eq an_Splice_eq cd_Splice_eq ct_Splice_eq), sl_Splice_eq⟩)
    (cc_Splice_eq : PySem.W.codeIn K cd_Splice_eq "Splice.__eq__" = true)
    (k_Splice_eq : PySem.W.keepIn K (.ref f_Splice_eq) = true)
    (ga_Splice_fits : PySem.W.findIn K (.ref a_Splice) "fits" = some (some (.ref f_Splice_fits)))
    (i_Splice_fits : PySem.W.isFn K (.ref f_Splice_fits) = true)
    (l_Splice_fits : K.lookup f_Splice_fits = some ⟨oc_Splice_fits, od_Splice_fits, .func (PySem.W.fnOf "fits" "Splice.fits" (defArgs s_Splice_fits) (defBody s_Splice_fits) (defScope s_Splice_fits) .none kV_Splice_fits dc_Splice_fits pm_Splice_fits an_Splice_fits cd_Splice_fits ct_Splice_fits), sl_Splice_fits⟩)
    (cc_Splice_fits : PySem.W.codeIn K cd_Splice_fits "Splice.fits" = true)
    (k_Splice_fits : PySem.W.keepIn K (.ref f_Splice_fits) = true)
    (ga_Splice_call : PySem.W.findIn K (.ref a_Splice) "__call__" = some (some (.ref f_Splice_call)))
    (i_Splice_call : PySem.W.isFn K (.ref f_Splice_call) = true)
    (l_Splice_call : K.lookup f_Splice_call = some ⟨oc_Splice_call, od_Splice_call, .func (PySem.W.fnOf "__call__" "Splice.__call__" (defArgs s_Splice_call) (defBody s_Splice_call) (defScope s_Splice_call) .none kV_Splice_call dc_Splice_call pm_Splice_call an_Splice_call cd_Splice_call ct_Splice_call), sl_Splice_call⟩)
    (cc_Splice_call : PySem.W.codeIn K cd_Splice_call "Splice.__call__" = true)
    (k_Splice_call : PySem.W.keepIn K (.ref f_Splice_call) = true)
    (ga_Splice_back : PySem.W.findIn K (.ref a_Splice) "back" = some (some (.ref f_Splice_back)))
    (i_Splice_back : PySem.W.isFn K (.ref f_Splice_back) = true)
    (l_Splice_back : K.lookup f_Splice_back = some ⟨oc_Splice_back, od_Splice_back, .func (PySem.W.fnOf "back" "Splice.back" (defArgs s_Splice_back) (defBody s_Splice_back) (defScope s_Splice_back) .none kV_Splice_back dc_Splice_back pm_Splice_back an_Splice_back cd_Splice_back ct_Splice_back), sl_Splice_back⟩)
    (cc_Splice_back : PySem.W.codeIn K cd_Splice_back "Splice.back" = true)
    (k_Splice_back : PySem.W.keepIn K (.ref f_Splice_back) = true)
    (ga_between : PySem.W.nsIn K mainGlobals "between" = some (some (.ref f_between)))
    (l_between : K.lookup f_between = some ⟨oc_between, od_between, .func (PySem.W.fnOf "between" "between" (defArgs s_between) (defBody s_between) (defScope s_between) .none kV_between dc_between pm_between an_between cd_between ct_between), sl_between⟩)
    (cc_between : PySem.W.codeIn K cd_between "between" = true)
    (k_between : PySem.W.keepIn K (.ref f_between) = true)
    (ga__law_mix : PySem.W.nsIn K mainGlobals "_law_mix" = some (some (.ref f__law_mix)))
    (l__law_mix : K.lookup f__law_mix = some ⟨oc__law_mix, od__law_mix, .func (PySem.W.fnOf "_law_mix" "_law_mix" (defArgs s__law_mix) (defBody s__law_mix) (defScope s__law_mix) .none kV__law_mix dc__law_mix pm__law_mix an__law_mix cd__law_mix ct__law_mix), sl__law_mix⟩)
    (cc__law_mix : PySem.W.codeIn K cd__law_mix "_law_mix" = true)
    (k__law_mix : PySem.W.keepIn K (.ref f__law_mix) = true)
    (ga__law_stream : PySem.W.nsIn K mainGlobals "_law_stream" = some (some (.ref f__law_stream)))
    (l__law_stream : K.lookup f__law_stream = some ⟨oc__law_stream, od__law_stream, .func (PySem.W.fnOf "_law_stream" "_law_stream" (defArgs s__law_stream) (defBody s__law_stream) (defScope s__law_stream) .none kV__law_stream dc__law_stream pm__law_stream an__law_stream cd__law_stream ct__law_stream), sl__law_stream⟩)
    (cc__law_stream : PySem.W.codeIn K cd__law_stream "_law_stream" = true)
    (k__law_stream : PySem.W.keepIn K (.ref f__law_stream) = true)
    (ga__law_pick : PySem.W.nsIn K mainGlobals "_law_pick" = some (some (.ref f__law_pick)))
    (l__law_pick : K.lookup f__law_pick = some ⟨oc__law_pick, od__law_pick, .func (PySem.W.fnOf "_law_pick" "_law_pick" (defArgs s__law_pick) (defBody s__law_pick) (defScope s__law_pick) .none kV__law_pick dc__law_pick pm__law_pick an__law_pick cd__law_pick ct__law_pick), sl__law_pick⟩)
    (cc__law_pick : PySem.W.codeIn K cd__law_pick "_law_pick" = true)
    (k__law_pick : PySem.W.keepIn K (.ref f__law_pick) = true)
    (ga__law_says : PySem.W.nsIn K mainGlobals "_law_says" = some (some (.ref f__law_says)))
    (l__law_says : K.lookup f__law_says = some ⟨oc__law_says, od__law_says, .func (PySem.W.fnOf "_law_says" "_law_says" (defArgs s__law_says) (defBody s__law_says) (defScope s__law_says) .none kV__law_says dc__law_says pm__law_says an__law_says cd__law_says ct__law_says), sl__law_says⟩)
    (cc__law_says : PySem.W.codeIn K cd__law_says "_law_says" = true)
    (k__law_says : PySem.W.keepIn K (.ref f__law_says) = true)
    (ga__law_whole : PySem.W.nsIn K mainGlobals "_law_whole" = some (some (.ref f__law_whole)))
    (l__law_whole : K.lookup f__law_whole = some ⟨oc__law_whole, od__law_whole, .func (PySem.W.fnOf "_law_whole" "_law_whole" (defArgs s__law_whole) (defBody s__law_whole) (defScope s__law_whole) .none kV__law_whole dc__law_whole pm__law_whole an__law_whole cd__law_whole ct__law_whole), sl__law_whole⟩)
    (cc__law_whole : PySem.W.codeIn K cd__law_whole "_law_whole" = true)
    (k__law_whole : PySem.W.keepIn K (.ref f__law_whole) = true)
    (ga__law_text : PySem.W.nsIn K mainGlobals "_law_text" = some (some (.ref f__law_text)))
    (l__law_text : K.lookup f__law_text = some ⟨oc__law_text, od__law_text, .func (PySem.W.fnOf "_law_text" "_law_text" (defArgs s__law_text) (defBody s__law_text) (defScope s__law_text) .none kV__law_text dc__law_text pm__law_text an__law_text cd__law_text ct__law_text), sl__law_text⟩)
    (cc__law_text : PySem.W.codeIn K cd__law_text "_law_text" = true)
    (k__law_text : PySem.W.keepIn K (.ref f__law_text) = true)
    (ga__law_is : PySem.W.nsIn K mainGlobals "_law_is" = some (some (.ref f__law_is)))
    (l__law_is : K.lookup f__law_is = some ⟨oc__law_is, od__law_is, .func (PySem.W.fnOf "_law_is" "_law_is" (defArgs s__law_is) (defBody s__law_is) (defScope s__law_is) .none kV__law_is dc__law_is pm__law_is an__law_is cd__law_is ct__law_is), sl__law_is⟩)
    (cc__law_is : PySem.W.codeIn K cd__law_is "_law_is" = true)
    (k__law_is : PySem.W.keepIn K (.ref f__law_is) = true)
    (ga__law_call_raises : PySem.W.nsIn K mainGlobals "_law_call_raises" = some (some (.ref f__law_call_raises)))
    (l__law_call_raises : K.lookup f__law_call_raises = some ⟨oc__law_call_raises, od__law_call_raises, .func (PySem.W.fnOf "_law_call_raises" "_law_call_raises" (defArgs s__law_call_raises) (defBody s__law_call_raises) (defScope s__law_call_raises) .none kV__law_call_raises dc__law_call_raises pm__law_call_raises an__law_call_raises cd__law_call_raises ct__law_call_raises), sl__law_call_raises⟩)
    (cc__law_call_raises : PySem.W.codeIn K cd__law_call_raises "_law_call_raises" = true)
    (k__law_call_raises : PySem.W.keepIn K (.ref f__law_call_raises) = true)
    (ga__law_back_raises : PySem.W.nsIn K mainGlobals "_law_back_raises" = some (some (.ref f__law_back_raises)))
    (l__law_back_raises : K.lookup f__law_back_raises = some ⟨oc__law_back_raises, od__law_back_raises, .func (PySem.W.fnOf "_law_back_raises" "_law_back_raises" (defArgs s__law_back_raises) (defBody s__law_back_raises) (defScope s__law_back_raises) .none kV__law_back_raises dc__law_back_raises pm__law_back_raises an__law_back_raises cd__law_back_raises ct__law_back_raises), sl__law_back_raises⟩)
    (cc__law_back_raises : PySem.W.codeIn K cd__law_back_raises "_law_back_raises" = true)
    (k__law_back_raises : PySem.W.keepIn K (.ref f__law_back_raises) = true)
    (ga__law_splice_fits : PySem.W.nsIn K mainGlobals "_law_splice_fits" = some (some (.ref f__law_splice_fits)))
    (l__law_splice_fits : K.lookup f__law_splice_fits = some ⟨oc__law_splice_fits, od__law_splice_fits, .func (PySem.W.fnOf "_law_splice_fits" "_law_splice_fits" (defArgs s__law_splice_fits) (defBody s__law_splice_fits) (defScope s__law_splice_fits) .none kV__law_splice_fits dc__law_splice_fits pm__law_splice_fits an__law_splice_fits cd__law_splice_fits ct__law_splice_fits), sl__law_splice_fits⟩)
    (cc__law_splice_fits : PySem.W.codeIn K cd__law_splice_fits "_law_splice_fits" = true)
    (k__law_splice_fits : PySem.W.keepIn K (.ref f__law_splice_fits) = true)
    (ga__law_equals : PySem.W.nsIn K mainGlobals "_law_equals" = some (some (.ref f__law_equals)))
    (l__law_equals : K.lookup f__law_equals = some ⟨oc__law_equals, od__law_equals, .func (PySem.W.fnOf "_law_equals" "_law_equals" (defArgs s__law_equals) (defBody s__law_equals) (defScope s__law_equals) .none kV__law_equals dc__law_equals pm__law_equals an__law_equals cd__law_equals ct__law_equals), sl__law_equals⟩)
    (cc__law_equals : PySem.W.codeIn K cd__law_equals "_law_equals" = true)
    (k__law_equals : PySem.W.keepIn K (.ref f__law_equals) = true)
    (ga__law_between_fits : PySem.W.nsIn K mainGlobals "_law_between_fits" = some (some (.ref f__law_between_fits)))
    (l__law_between_fits : K.lookup f__law_between_fits = some ⟨oc__law_between_fits, od__law_between_fits, .func (PySem.W.fnOf "_law_between_fits" "_law_between_fits" (defArgs s__law_between_fits) (defBody s__law_between_fits) (defScope s__law_between_fits) .none kV__law_between_fits dc__law_between_fits pm__law_between_fits an__law_between_fits cd__law_between_fits ct__law_between_fits), sl__law_between_fits⟩)
    (cc__law_between_fits : PySem.W.codeIn K cd__law_between_fits "_law_between_fits" = true)
    (k__law_between_fits : PySem.W.keepIn K (.ref f__law_between_fits) = true)
    (ga__law_wide : PySem.W.nsIn K mainGlobals "_law_wide" = some (some (.ref f__law_wide)))
    (l__law_wide : K.lookup f__law_wide = some ⟨oc__law_wide, od__law_wide, .func (PySem.W.fnOf "_law_wide" "_law_wide" (defArgs s__law_wide) (defBody s__law_wide) (defScope s__law_wide) .none kV__law_wide dc__law_wide pm__law_wide an__law_wide cd__law_wide ct__law_wide), sl__law_wide⟩)
    (cc__law_wide : PySem.W.codeIn K cd__law_wide "_law_wide" = true)
    (k__law_wide : PySem.W.keepIn K (.ref f__law_wide) = true)
    (ga_law : PySem.W.nsIn K mainGlobals "law" = some (some (.ref f_law)))
    (l_law : K.lookup f_law = some ⟨oc_law, od_law, .func (PySem.W.fnOf "law" "law" (defArgs s_law) (defBody s_law) (defScope s_law) .none kV_law dc_law pm_law an_law cd_law ct_law), sl_law⟩)
    (cc_law : PySem.W.codeIn K cd_law "law" = true)
    (k_law : PySem.W.keepIn K (.ref f_law) = true)
    (zz_abs : PySem.W.nsIn K mainGlobals "abs" = some none)
    (zz_bool : PySem.W.nsIn K mainGlobals "bool" = some none)
    (zz_int : PySem.W.nsIn K mainGlobals "int" = some none)
    (zz_isinstance : PySem.W.nsIn K mainGlobals "isinstance" = some none)
    (zz_len : PySem.W.nsIn K mainGlobals "len" = some none)
    (zz_min : PySem.W.nsIn K mainGlobals "min" = some none)
    (zz_range : PySem.W.nsIn K mainGlobals "range" = some none)
    (zz_str : PySem.W.nsIn K mainGlobals "str" = some none)
    (ks_str : PySem.W.kitOne K (.type "str") (.ref a_Splice) = some false)
    (ks_tup : PySem.W.kitOne K (.type "tuple") (.ref a_Splice) = some false)
    (ss_str : PySem.W.subIn K (.type "str") (.ref a_Splice) = some false)
    (ss_tup : PySem.W.subIn K (.type "tuple") (.ref a_Splice) = some false)
    (fi_Splice : PySem.W.fnIn K f_Splice_call = true)
    (ecg : PySem.W.findIn K (.ref a_BadSplice) "__getattribute__" = some (some (.builtin "BaseException.__getattribute__")))
    (eck : PySem.W.findIn K (.ref a_BadSplice) "__getattr__" = some none)
    (ecd : PySem.W.hasDictIn K a_BadSplice = true)
    (eca : PySem.W.findIn K (.ref a_BadSplice) "__class__" = some (some (.builtin "object.__class__")))
    (ecm : PySem.W.mroIn K a_BadSplice (.type "object") = some true)
    (em_bl : PySem.W.exmOne K (.ref a_BadSplice) (.ref a_LensError) = some true)
    {fa : Addr} (hfa : mg "law" = some (.ref fa)) : ∃ T : Txt K mg, T.f_law = fa := by
  have e := hfa.symm.trans (PySem.W.mg_of X G ga_law)
  cases e
  exact ⟨{
      a_LensError := a_LensError,
      g_LensError := PySem.W.mg_of X G ga_LensError,
      k_LensError := k_LensError,
      x_LensError := x_LensError,
      bP_LensError := bP_LensError,
      tP_LensError := tP_LensError,
      iP_LensError := iP_LensError,
      a_BadSplice := a_BadSplice,
      g_BadSplice := PySem.W.mg_of X G ga_BadSplice,
      k_BadSplice := k_BadSplice,
      x_BadSplice := x_BadSplice,
      bP_BadSplice := bP_BadSplice,
      tP_BadSplice := tP_BadSplice,
      iP_BadSplice := iP_BadSplice,
      a_Splice := a_Splice,
      g_Splice := PySem.W.mg_of X G ga_Splice,
      k_Splice := k_Splice,
      c_Splice := ⟨pg_Splice, hd_Splice, po_Splice, sa_Splice⟩,
      n_Splice_start := n_Splice_start,
      n_Splice_end := n_Splice_end,
      n_Splice_new := n_Splice_new,
      ha_Splice := ha_Splice,
      hm_Splice := hm_Splice,
      hn_ := hn_,
      htk_ := htk_,
      m_Splice_init := ⟨ga_Splice_init, i_Splice_init, k_Splice_init⟩,
      M_Splice := ⟨mk_Splice, ga_Splice_init, i_Splice_init, k_Splice⟩,
      f_Splice_init := f_Splice_init,
      fd_Splice_init := _,
      F_Splice_init := fun_mk (st := s_Splice_init) l_Splice_init cc_Splice_init k_Splice_init,
      b_Splice_init := (fun_mk (st := s_Splice_init) l_Splice_init cc_Splice_init k_Splice_init).binds (ps := ["self", "start", "end", "new"]) fun _ _ _ _ _ _ us hl => match us, hl with | [_, _, _, _], _ => rfl,
      pr_Splice_longer := ⟨pa_Splice_longer, pb_Splice_longer, pc_Splice_longer, ⟨_, pd_Splice_longer⟩⟩,
      p_Splice_longer := p_Splice_longer,
      f_Splice_longer := f_Splice_longer,
      fd_Splice_longer := _,
      F_Splice_longer := fun_mk (st := s_Splice_longer) l_Splice_longer cc_Splice_longer k_Splice_longer,
      b_Splice_longer := (fun_mk (st := s_Splice_longer) l_Splice_longer cc_Splice_longer k_Splice_longer).binds (ps := ["self"]) fun _ _ _ _ _ _ us hl => match us, hl with | [_], _ => rfl,
      m_Splice_eq := ⟨ga_Splice_eq, i_Splice_eq, k_Splice_eq⟩,
      f_Splice_eq := f_Splice_eq,
      fd_Splice_eq := _,
      F_Splice_eq := fun_mk (st := s_Splice_eq) l_Splice_eq cc_Splice_eq k_Splice_eq,
      b_Splice_eq := (fun_mk (st := s_Splice_eq) l_Splice_eq cc_Splice_eq k_Splice_eq).binds (ps := ["self", "other"]) fun _ _ _ _ _ _ us hl => match us, hl with | [_, _], _ => rfl,
      m_Splice_fits := ⟨ga_Splice_fits, i_Splice_fits, k_Splice_fits⟩,
      f_Splice_fits := f_Splice_fits,
      fd_Splice_fits := _,
      F_Splice_fits := fun_mk (st := s_Splice_fits) l_Splice_fits cc_Splice_fits k_Splice_fits,
      b_Splice_fits := (fun_mk (st := s_Splice_fits) l_Splice_fits cc_Splice_fits k_Splice_fits).binds (ps := ["self", "text"]) fun _ _ _ _ _ _ us hl => match us, hl with | [_, _], _ => rfl,
      m_Splice_call := ⟨ga_Splice_call, i_Splice_call, k_Splice_call⟩,
      f_Splice_call := f_Splice_call,
      fd_Splice_call := _,
      F_Splice_call := fun_mk (st := s_Splice_call) l_Splice_call cc_Splice_call k_Splice_call,
      b_Splice_call := (fun_mk (st := s_Splice_call) l_Splice_call cc_Splice_call k_Splice_call).binds (ps := ["self", "text"]) fun _ _ _ _ _ _ us hl => match us, hl with | [_, _], _ => rfl,
      m_Splice_back := ⟨ga_Splice_back, i_Splice_back, k_Splice_back⟩,
      f_Splice_back := f_Splice_back,
      fd_Splice_back := _,
      F_Splice_back := fun_mk (st := s_Splice_back) l_Splice_back cc_Splice_back k_Splice_back,
      b_Splice_back := (fun_mk (st := s_Splice_back) l_Splice_back cc_Splice_back k_Splice_back).binds (ps := ["self", "text"]) fun _ _ _ _ _ _ us hl => match us, hl with | [_, _], _ => rfl,
      g_between := PySem.W.mg_of X G ga_between,
      f_between := f_between,
      fd_between := _,
      F_between := fun_mk (st := s_between) l_between cc_between k_between,
      b_between := (fun_mk (st := s_between) l_between cc_between k_between).binds (ps := ["old", "new"]) fun _ _ _ _ _ _ us hl => match us, hl with | [_, _], _ => rfl,
      g__law_mix := PySem.W.mg_of X G ga__law_mix,
      f__law_mix := f__law_mix,
      fd__law_mix := _,
      F__law_mix := fun_mk (st := s__law_mix) l__law_mix cc__law_mix k__law_mix,
      b__law_mix := (fun_mk (st := s__law_mix) l__law_mix cc__law_mix k__law_mix).binds (ps := ["cell", "k"]) fun _ _ _ _ _ _ us hl => match us, hl with | [_, _], _ => rfl,
      g__law_stream := PySem.W.mg_of X G ga__law_stream,
      f__law_stream := f__law_stream,
      fd__law_stream := _,
      F__law_stream := fun_mk (st := s__law_stream) l__law_stream cc__law_stream k__law_stream,
      b__law_stream := (fun_mk (st := s__law_stream) l__law_stream cc__law_stream k__law_stream).binds (ps := ["script", "many"]) fun _ _ _ _ _ _ us hl => match us, hl with | [_, _], _ => rfl,
      g__law_pick := PySem.W.mg_of X G ga__law_pick,
      f__law_pick := f__law_pick,
      fd__law_pick := _,
      F__law_pick := fun_mk (st := s__law_pick) l__law_pick cc__law_pick k__law_pick,
      b__law_pick := (fun_mk (st := s__law_pick) l__law_pick cc__law_pick k__law_pick).binds (ps := ["numbers", "at", "many"]) fun _ _ _ _ _ _ us hl => match us, hl with | [_, _, _], _ => rfl,
      g__law_says := PySem.W.mg_of X G ga__law_says,
      f__law_says := f__law_says,
      fd__law_says := _,
      F__law_says := fun_mk (st := s__law_says) l__law_says cc__law_says k__law_says,
      b__law_says := (fun_mk (st := s__law_says) l__law_says cc__law_says k__law_says).binds (ps := ["answer", "due"]) fun _ _ _ _ _ _ us hl => match us, hl with | [_, _], _ => rfl,
      g__law_whole := PySem.W.mg_of X G ga__law_whole,
      f__law_whole := f__law_whole,
      fd__law_whole := _,
      F__law_whole := fun_mk (st := s__law_whole) l__law_whole cc__law_whole k__law_whole,
      b__law_whole := (fun_mk (st := s__law_whole) l__law_whole cc__law_whole k__law_whole).binds (ps := ["answer", "due"]) fun _ _ _ _ _ _ us hl => match us, hl with | [_, _], _ => rfl,
      g__law_text := PySem.W.mg_of X G ga__law_text,
      f__law_text := f__law_text,
      fd__law_text := _,
      F__law_text := fun_mk (st := s__law_text) l__law_text cc__law_text k__law_text,
      b__law_text := (fun_mk (st := s__law_text) l__law_text cc__law_text k__law_text).binds (ps := ["numbers", "at", "many"]) fun _ _ _ _ _ _ us hl => match us, hl with | [_, _, _], _ => rfl,
      g__law_is := PySem.W.mg_of X G ga__law_is,
      f__law_is := f__law_is,
      fd__law_is := _,
      F__law_is := fun_mk (st := s__law_is) l__law_is cc__law_is k__law_is,
      b__law_is := (fun_mk (st := s__law_is) l__law_is cc__law_is k__law_is).binds (ps := ["splice", "start", "end", "new"]) fun _ _ _ _ _ _ us hl => match us, hl with | [_, _, _, _], _ => rfl,
      g__law_call_raises := PySem.W.mg_of X G ga__law_call_raises,
      f__law_call_raises := f__law_call_raises,
      fd__law_call_raises := _,
      F__law_call_raises := fun_mk (st := s__law_call_raises) l__law_call_raises cc__law_call_raises k__law_call_raises,
      b__law_call_raises := (fun_mk (st := s__law_call_raises) l__law_call_raises cc__law_call_raises k__law_call_raises).binds (ps := ["splice", "text"]) fun _ _ _ _ _ _ us hl => match us, hl with | [_, _], _ => rfl,
      g__law_back_raises := PySem.W.mg_of X G ga__law_back_raises,
      f__law_back_raises := f__law_back_raises,
      fd__law_back_raises := _,
      F__law_back_raises := fun_mk (st := s__law_back_raises) l__law_back_raises cc__law_back_raises k__law_back_raises,
      b__law_back_raises := (fun_mk (st := s__law_back_raises) l__law_back_raises cc__law_back_raises k__law_back_raises).binds (ps := ["splice", "text"]) fun _ _ _ _ _ _ us hl => match us, hl with | [_, _], _ => rfl,
      g__law_splice_fits := PySem.W.mg_of X G ga__law_splice_fits,
      f__law_splice_fits := f__law_splice_fits,
      fd__law_splice_fits := _,
      F__law_splice_fits := fun_mk (st := s__law_splice_fits) l__law_splice_fits cc__law_splice_fits k__law_splice_fits,
      b__law_splice_fits := (fun_mk (st := s__law_splice_fits) l__law_splice_fits cc__law_splice_fits k__law_splice_fits).binds (ps := ["start", "end", "new", "text"]) fun _ _ _ _ _ _ us hl => match us, hl with | [_, _, _, _], _ => rfl,
      g__law_equals := PySem.W.mg_of X G ga__law_equals,
      f__law_equals := f__law_equals,
      fd__law_equals := _,
      F__law_equals := fun_mk (st := s__law_equals) l__law_equals cc__law_equals k__law_equals,
      b__law_equals := (fun_mk (st := s__law_equals) l__law_equals cc__law_equals k__law_equals).binds (ps := ["start", "end", "new"]) fun _ _ _ _ _ _ us hl => match us, hl with | [_, _, _], _ => rfl,
      g__law_between_fits := PySem.W.mg_of X G ga__law_between_fits,
      f__law_between_fits := f__law_between_fits,
      fd__law_between_fits := _,
      F__law_between_fits := fun_mk (st := s__law_between_fits) l__law_between_fits cc__law_between_fits k__law_between_fits,
      b__law_between_fits := (fun_mk (st := s__law_between_fits) l__law_between_fits cc__law_between_fits k__law_between_fits).binds (ps := ["old", "new"]) fun _ _ _ _ _ _ us hl => match us, hl with | [_, _], _ => rfl,
      g__law_wide := PySem.W.mg_of X G ga__law_wide,
      f__law_wide := f__law_wide,
      fd__law_wide := _,
      F__law_wide := fun_mk (st := s__law_wide) l__law_wide cc__law_wide k__law_wide,
      b__law_wide := (fun_mk (st := s__law_wide) l__law_wide cc__law_wide k__law_wide).binds (ps := ["numbers", "at", "many"]) fun _ _ _ _ _ _ us hl => match us, hl with | [_, _, _], _ => rfl,
      g_law := PySem.W.mg_of X G ga_law,
      f_law := f_law,
      fd_law := _,
      F_law := fun_mk (st := s_law) l_law cc_law k_law,
      b_law := (fun_mk (st := s_law) l_law cc_law k_law).binds (ps := ["script"]) fun _ _ _ _ _ _ us hl => match us, hl with | [_], _ => rfl,
      bt_law := fun s v => .of_eq rfl,
      z_abs := PySem.W.mg_none_of X G zz_abs,
      z_bool := PySem.W.mg_none_of X G zz_bool,
      z_int := PySem.W.mg_none_of X G zz_int,
      z_isinstance := PySem.W.mg_none_of X G zz_isinstance,
      z_len := PySem.W.mg_none_of X G zz_len,
      z_min := PySem.W.mg_none_of X G zz_min,
      z_range := PySem.W.mg_none_of X G zz_range,
      z_str := PySem.W.mg_none_of X G zz_str,
      ks_str := ks_str,
      ks_tup := ks_tup,
      ss_str := ss_str,
      ss_tup := ss_tup,
      fi_Splice := fi_Splice,
      ecg := ecg,
      eck := eck,
      ecd := ecd,
      eca := eca,
      ecm := ecm,
      em_bl := em_bl }, rfl⟩
end K44
namespace K44
open PySem PySem.Spec PyProof.Rows L2
local macro_rules | `(tactic| walk_at "con") => `(tactic| first | with_reducible refine Gx.conE K44.ks0 ?_ | with_reducible refine Gx.conE K44.ks1 ?_ | with_reducible refine Gx.conE K44.ks2 ?_)
section
variable {P : Program} {w : World} {K : PySem.W.Frag} {mg : Str → Option Value} {base : Heap}
def mix (cell k : Int) : Int :=
  ((((cell * 48271 + k * 7919 + 101) % 2147483647) * ((cell * 48271 + k * 7919 + 101) % 2147483647) + 31 * ((cell * 48271 + k * 7919 + 101) % 2147483647) + k * k * 17) % 1000000007 * 69621 + 5) % 2147483647 / 7
def sp_mix : Sp := fun vs H Q _ => ∃ (c k : Int), vs = [.int c, .int k] ∧ 0 ≤ k ∧ k < 10000 ∧ Q (.int (mix c k)) H
theorem G__law_mix (T : Txt K mg) : FnOk P w K mg base CX0 1 T.f__law_mix T.fd__law_mix ["cell", "k"] sp_mix := by
  refine T.F__law_mix.ok sc__law_mix (fun vs H Q E h => ?_) (fun cdv A outer s H vs Q E hr h => ?_)
  · obtain ⟨c, k, rfl, _⟩ := h
    rfl
  · obtain ⟨c, k, rfl, h0, h1, q⟩ := h
    refine ⟨_, ((pss_cons (ps_set (i := 2) sc__law_mix.nd rfl (Or.inl rfl) (pe_op op_mod (pe_op op_add (pe_op op_add (pe_op op_mul (pe_callTy Gx.cr_int1 (by rfl) T.z_int bt_int (pa_cons (pv 0) pa_nil)) pe_int) (pe_op op_mul (pv 1) pe_int)) pe_int) pe_int))
  (pss_cons (ps_set (i := 3) sc__law_mix.nd rfl (Or.inl rfl) (pe_op op_mod (pe_op op_add (pe_op op_add (pe_op op_mul (pv 2) (pv 2)) (pe_op op_mul pe_int (pv 2))) (pe_op op_mul (pe_op op_mul (pv 1) (pv 1)) pe_int)) pe_int))
  (pss_one (ps_ret (pe_op op_fdiv (pe_op op_mod (pe_op op_add (pe_op op_mul (pv 3) pe_int) pe_int) pe_int) pe_int)))))), ?_⟩
    rw [st__law_mix]
    walk_at "g"
    exact q
/-- a digit -/
def Dig (xs : List Int) : Prop := ∀ x ∈ xs, 0 ≤ x ∧ x < 60
theorem Dig.snoc {xs : List Int} {z : Int} (h : Dig xs) (a : 0 ≤ z) (b : z < 60) : Dig (xs ++ [z]) := fun x hx => by
  rcases List.mem_append.mp hx with h1 | h1
  · exact h x h1
  · cases List.mem_singleton.mp h1
    exact ⟨a, b⟩
def sp_stream (K : PySem.W.Frag) : Sp := fun vs H Q _ => ∃ (a : Addr) (ns : List Int) (many : Int), vs = [.ref a, .int many] ∧ SqL K H a (ns.map V.int) ∧ ns.length ≤ 63 ∧ 0 ≤ many ∧ many ≤ 1000 ∧
  ∀ H' p xs, Same H H' → H p = none → H' p = some (.lst (xs.map V.int)) → (xs.length : Int) = many → Dig xs → Q (.ref p) H'
theorem G__law_stream (T : Txt K mg) : FnOk P w K mg base CX0 2 T.f__law_stream T.fd__law_stream ["script", "many"] (sp_stream K) := by
  have G__law_mix := G__law_mix (P := P) (w := w) (base := base) T
  refine T.F__law_stream.ok sc__law_stream (fun vs H Q E h => ?_) (fun cdv A outer s H vs Q E hr h => ?_)
  · obtain ⟨a, ns, many, rfl, _⟩ := h
    rfl
  · obtain ⟨a, ns, many, rfl, hS, hlen, h0, h1, q⟩ := h
    refine ⟨_, ((pss_cons (ps_set (i := 2) sc__law_stream.nd rfl (Or.inl rfl) pe_int)
  (C8.pss_cut (ps_if (pt_cmpR op_gt (pe_callB Gx.cr_lenQ (by rfl) T.z_len bt_len (pa_cons (pv 0) pa_nil)) pe_int (nomark _))
  (pss_one (ps_set (i := 2) sc__law_stream.nd rfl (Or.inl rfl) (pe_callB Gx.cr_abs (by rfl) T.z_abs bt_abs (pa_cons (pe_callTy Gx.cr_int1 (by rfl) T.z_int bt_int (pa_cons (pe_ix ix_list (pv 0) pe_int (fun _ _ => rfl)) pa_nil)) pa_nil))))
  pss_nil)
  (C8.pss_cut (ps_if (pt_cmpR op_lt (pv 2) (pe_op op_pow pe_int pe_int) (nomark _))
  (pss_one (ps_set (i := 2) sc__law_stream.nd rfl (Or.inl rfl) pe_int))
  pss_nil)
  (pss_cons (ps_set (i := 3) sc__law_stream.nd rfl (Or.inl rfl) (pe_lst pa_nil))
  (pss_cons (ps_for PassesOwn.never rfl (pi_range1 rfl T.z_range (pa_cons (pv 1) pa_nil)) (pg_name (i := 4) sc__law_stream.nd rfl (Or.inl rfl))
  (pss_one (ps_if (pt_cmpR op_gt (pv 2) pe_int (nomark _))
  (pss_cons (ps_expr (pe_bm PySem.F.plainAttrs_list PySem.F.slot_list_append PySem.F.type_list_append mt_append (pv 3) (pa_cons (pe_op op_mod (pv 2) pe_int) pa_nil)))
  (pss_one (ps_set (i := 2) sc__law_stream.nd rfl (Or.inl rfl) (pe_op op_fdiv (pv 2) pe_int))))
  (pss_cons (ps_set (i := 5) sc__law_stream.nd rfl (Or.inl rfl) pe_int)
  (C8.pss_cut (ps_if (pt_cmpR op_gt (pe_callB Gx.cr_lenQ (by rfl) T.z_len bt_len (pa_cons (pv 0) pa_nil)) pe_int (nomark _))
  (pss_one (ps_set (i := 5) sc__law_stream.nd rfl (Or.inl rfl) (pe_ix ix_list (pv 0) (pe_op op_mod (pv 4) (pe_callB Gx.cr_lenQ (by rfl) T.z_len bt_len (pa_cons (pv 0) pa_nil))) (fun _ _ => rfl))))
  pss_nil)
  (pss_one (ps_expr (pe_bm PySem.F.plainAttrs_list PySem.F.slot_list_append PySem.F.type_list_append mt_append (pv 3) (pa_cons (pe_op op_mod (pe_call G__law_mix (hr.mono (by decide)) (by rfl) T.g__law_mix T.F__law_mix.kp T.b__law_mix .nil pass0 (pa_cons (pv 5) (pa_cons (pv 4) pa_nil))) pe_int) pa_nil)))))))))
  (pss_one (ps_ret (pv 3))))))))), ?_⟩
    rw [st__law_stream]
    try dsimp only [cxOf]
    walk_at "g"
    have hS' : ∀ H', Same H H' → SqL K H' a (ns.map V.int) := fun H' e => e.seq hS
    -- the first cell
    refine ⟨fun σ H1 => ∃ rest : Int, 0 ≤ rest ∧ H1 = H ∧ σ = [some (.ref a), some (.int many), some (.int rest), none, none, none], ?_, ?_⟩
    · walk_at "g"
      refine Gx.iteD (fun e => ?_) (fun e => ?_)
      · walk_at "g"
        exact ⟨_, by split <;> omega, rfl, rfl⟩
      · walk_at "g"
        exact ⟨0, by omega, rfl, rfl⟩
    · rintro σ H1 ⟨rest, hr0, rfl, rfl⟩
      walk_at "g"
      refine ⟨fun σ H2 => ∃ rest : Int, 0 ≤ rest ∧ H2 = H1 ∧ σ = [some (.ref a), some (.int many), some (.int rest), none, none, none], ?_, ?_⟩
      · walk_at "g"
        refine Gx.iteD (fun e => ?_) (fun e => ?_)
        · walk_at "g"
          exact ⟨0, by omega, rfl, rfl⟩
        · walk_at "g"
          exact ⟨rest, hr0, rfl, rfl⟩
      · rintro σ H2 ⟨rest, hr0, rfl, rfl⟩
        walk_at "g"
        refine Gx.newD (by decide) (fun p H3 E3 => ?_)
        walk_at "g"
        refine ⟨_, rfl, by omega, by omega, for_range (fun i σ H4 => ∃ (rest : Int) (y z : Option V) (xs : List Int), 0 ≤ rest ∧ σ = [some (.ref a), some (.int many), some (.int rest), some (.ref p), y, z] ∧ Same H2 H4 ∧
          H4 p = some (.lst (xs.map V.int)) ∧ xs.length = i ∧ Dig xs) ⟨rest, none, none, [], hr0, rfl, E3.same, E3.at_, rfl, fun x hx => by cases hx⟩ ?_ ?_⟩
        · rintro i σ H4 hi ⟨rest, y, z, xs, h2, rfl, s4, e4, l4, d4⟩
          walk_at "g"
          have hS4 : SqL K H4 a (ns.map V.int) := hS' _ s4
          refine Gx.iteD (fun e => ?_) (fun e => ?_)
          · walk_at "g"
            exact ⟨rest / 60, _, _, xs ++ [rest % 60], by omega, rfl, Gx.Same.put s4 E3.fresh, upd_same, by simp [l4], d4.snoc (by omega) (by omega)⟩
          · walk_at "g"
            refine ⟨fun σ H5 => ∃ cell : Int, H5 = H4 ∧ σ = [some (.ref a), some (.int many), some (.int rest), some (.ref p), some (.int (0 + i)), some (.int cell)], ?_, ?_⟩
            · walk_at "g"
              refine Gx.iteD (fun e => ?_) (fun e => ?_)
              · walk_at "g"
                exact ⟨_, rfl, rfl⟩
              · walk_at "g"
                exact ⟨_, rfl, rfl⟩
            · rintro σ H5 ⟨cell, rfl, rfl⟩
              walk_at "g"
              refine ⟨_, _, rfl, by omega, by omega, ?_⟩
              walk_at "g"
              exact ⟨rest, _, _, xs ++ [mix cell (0 + i) % 60], by omega, rfl, Gx.Same.put s4 E3.fresh, upd_same, by simp [l4], d4.snoc (by omega) (by omega)⟩
        · rintro σ H4 ⟨rest, y, z, xs, h2, rfl, s4, e4, l4, d4⟩
          walk_at "g"
          exact q H4 p xs s4 E3.fresh e4 (by omega) d4
def pick (xs : List Int) (at_ many : Int) : Int := xs.getD (at_ % xs.length).toNat 0 % many
theorem pick_0 (xs : List Int) (a : Int) {m : Int} (h : 0 < m) : 0 ≤ pick xs a m := Int.emod_nonneg _ (by omega)
theorem pick_lt (xs : List Int) (a : Int) {m : Int} (h : 0 < m) : pick xs a m < m := Int.emod_lt_of_pos _ h
def sp_pick (K : PySem.W.Frag) : Sp := fun vs H Q _ => ∃ (a : Addr) (xs : List Int) (i m : Int), vs = [.ref a, .int i, .int m] ∧ SqL K H a (xs.map V.int) ∧ 0 < xs.length ∧ 0 < m ∧ Q (.int (pick xs i m)) H
theorem G__law_pick (T : Txt K mg) : FnOk P w K mg base CX0 1 T.f__law_pick T.fd__law_pick ["numbers", "at", "many"] (sp_pick K) := by
  refine T.F__law_pick.ok sc__law_pick (fun vs H Q E h => ?_) (fun cdv A outer s H vs Q E hr h => ?_)
  · obtain ⟨a, ns, i, m, rfl, _⟩ := h
    rfl
  · obtain ⟨a, xs, i, m, rfl, hS, hl, hm, q⟩ := h
    refine ⟨_, ((pss_one (ps_ret (pe_op op_mod (pe_callTy Gx.cr_int1 (by rfl) T.z_int bt_int (pa_cons (pe_ix ix_list (pv 0) (pe_op op_mod (pv 1) (pe_callB Gx.cr_lenQ (by rfl) T.z_len bt_len (pa_cons (pv 0) pa_nil))) (fun _ _ => rfl)) pa_nil)) (pv 2))))), ?_⟩
    rw [st__law_pick]
    try dsimp only [cxOf]
    walk_at "g"
    exact q
def wide (xs : List Int) (i m : Int) : Int := (pick xs i 60 * 60 + pick xs (i + 1) 60) % m
theorem wide_0 (xs : List Int) (a : Int) {m : Int} (h : 0 < m) : 0 ≤ wide xs a m := Int.emod_nonneg _ (by omega)
theorem wide_lt (xs : List Int) (a : Int) {m : Int} (h : 0 < m) : wide xs a m < m := Int.emod_lt_of_pos _ h
def sp_wide (K : PySem.W.Frag) : Sp := fun vs H Q _ => ∃ (a : Addr) (xs : List Int) (i m : Int), vs = [.ref a, .int i, .int m] ∧ SqL K H a (xs.map V.int) ∧ 0 < xs.length ∧ 0 < m ∧ Q (.int (wide xs i m)) H
theorem G__law_wide (T : Txt K mg) : FnOk P w K mg base CX0 2 T.f__law_wide T.fd__law_wide ["numbers", "at", "many"] (sp_wide K) := by
  have G__law_pick := G__law_pick (P := P) (w := w) (base := base) T
  refine T.F__law_wide.ok sc__law_wide (fun vs H Q E h => ?_) (fun cdv A outer s H vs Q E hr h => ?_)
  · obtain ⟨a, ns, i, m, rfl, _⟩ := h
    rfl
  · obtain ⟨a, xs, i, m, rfl, hS, hl, hm, q⟩ := h
    refine ⟨_, ((pss_one (ps_ret (pe_op op_mod (pe_callTy Gx.cr_int1 (by rfl) T.z_int bt_int (pa_cons (pe_op op_add (pe_op op_mul (pe_call G__law_pick (hr.mono (by decide)) (by rfl) T.g__law_pick T.F__law_pick.kp T.b__law_pick .nil pass0 (pa_cons (pv 0) (pa_cons (pv 1) (pa_cons pe_int pa_nil)))) pe_int) (pe_call G__law_pick (hr.mono (by decide)) (by rfl) T.g__law_pick T.F__law_pick.kp T.b__law_pick .nil pass0 (pa_cons (pv 0) (pa_cons (pe_op op_add (pv 1) pe_int) (pa_cons pe_int pa_nil))))) pa_nil)) (pv 2))))), ?_⟩
    rw [st__law_wide]
    try dsimp only [cxOf]
    walk_at "g"
    refine ⟨a, xs, _, _, rfl, hS, hl, by omega, ?_⟩
    walk_at "g"
    refine ⟨a, xs, _, _, rfl, hS, hl, by omega, ?_⟩
    walk_at "g"
    exact q
def sgn (i : Int) : Nat := [58, 59, 97, 98, 99].getD i.toNat 0
def txtL (xs : List Int) (i : Int) (n : Nat) : List Nat := (List.range n).map fun k => sgn (pick xs (i + (k : Nat)) 5)
theorem txtL_len (xs : List Int) (i : Int) (n : Nat) : (txtL xs i n).length = n := by simp [txtL]
def sp_text (K : PySem.W.Frag) : Sp := fun vs H Q _ => ∃ (a : Addr) (xs : List Int) (i m : Int), vs = [.ref a, .int i, .int m] ∧ SqL K H a (xs.map V.int) ∧ 0 < xs.length ∧ 0 ≤ m ∧ m ≤ 1000 ∧ ∀ H', Same H H' → Q (.str (Gx.mkS (txtL xs i m.toNat))) H'
theorem G__law_text (T : Txt K mg) : FnOk P w K mg base CX0 2 T.f__law_text T.fd__law_text ["numbers", "at", "many"] (sp_text K) := by
  have G__law_pick := G__law_pick (P := P) (w := w) (base := base) T
  refine T.F__law_text.ok sc__law_text (fun vs H Q E h => ?_) (fun cdv A outer s H vs Q E hr h => ?_)
  · obtain ⟨a, ns, i, m, rfl, _⟩ := h
    rfl
  · obtain ⟨a, xs, i, m, rfl, hS, hl, hm, hm2, q⟩ := h
    refine ⟨_, ((pss_one (ps_ret (Gx.pe_joinG pe_str (pe_lc (own := [("k", 3)]) (g := gName 3) (tt := tYes) (by rfl) sc__law_text.nd (pi_range1 rfl T.z_range (pa_cons (pv 2) pa_nil)) (blkOk_by (N := ["numbers", "at", "many", "k"]) (sc := defScope s__law_text) (by decide +kernel)) (fun _ _ _ _ _ => (pg_name (i := 3) sc__law_text.nd rfl (Or.inl rfl))) (fun _ _ _ _ _ => pts_nil) (fun _ _ _ _ _ => (pe_ix ix_str pe_str (pe_call G__law_pick (hr.mono (by decide)) (by rfl) T.g__law_pick T.F__law_pick.kp T.b__law_pick .nil pass0 (pa_cons (pv 0) (pa_cons (pe_op op_add (pv 1) (pv 3)) (pa_cons pe_int pa_nil)))) (fun _ _ => rfl)))))))), ?_⟩
    rw [st__law_text]
    try dsimp only [cxOf]
    walk_at "g"
    refine ⟨_, rfl, by omega, by omega, fun D nD => lc_range (fun j H1 => Same H H1 ∧ H1 D = some (.lst (((((List.range j).map fun k => [sgn (pick xs (i + (k : Nat)) 5)])).map Gx.mkS).map V.str)))
      ⟨Gx.Same.put (Same.refl H) nD, upd_same⟩ ?_ ?_⟩
    · rintro j H1 hj ⟨s1, e1⟩
      have hS1 : SqL K H1 a (xs.map V.int) := s1.seq hS
      walk_at "g"
      refine ⟨rfl, ?_⟩
      walk_at "g"
      refine ⟨a, xs, _, _, rfl, hS1, hl, by omega, ?_⟩
      have b0 := pick_0 xs (i + (0 + (j : Int))) (m := 5) (by omega)
      have b1 := pick_lt xs (i + (0 + (j : Int))) (m := 5) (by omega)
      walk_at "g"
      refine ⟨_, e1, Gx.lineL (by simp; omega), Gx.Same.put s1 nD, ?_⟩
      rw [upd_same, List.range_succ, List.map_append, List.map_append, List.map_append, Int.zero_add]
      rfl
    · rintro H1 ⟨s1, e1⟩
      have ef : ((List.range m.toNat).map fun k => [sgn (pick xs (i + (k : Nat)) 5)]).flatten = txtL xs i m.toNat := by
        unfold txtL
        induction (List.range m.toNat) with
        | nil => rfl
        | cons x r ih => rw [List.map_cons, List.map_cons, List.flatten_cons, ih]; rfl
      refine Gx.join0 (SqL.of e1) ?_ ?_
      · rw [ef, txtL_len]
        omega
      · rw [ef]
        exact q H1 s1
def sp_says : Sp := fun vs H Q _ => ∃ (a b : Bool), vs = [.bl a, .bl b] ∧ Q (.bl (a == b)) H
theorem G__law_says (T : Txt K mg) : FnOk P w K mg base CX0 1 T.f__law_says T.fd__law_says ["answer", "due"] sp_says := by
  refine T.F__law_says.ok sc__law_says (fun vs H Q E h => ?_) (fun cdv A outer s H vs Q E hr h => ?_)
  · obtain ⟨a, b, rfl, _⟩ := h
    rfl
  · obtain ⟨a, b, rfl, q⟩ := h
    refine ⟨_, ((pss_cons (ps_if (pt_val (pv 1))
  (pss_one (ps_ret (pe_cmpR op_isBl (pv 0) pe_bl (nomark _))))
  pss_nil)
  (pss_one (ps_ret (pe_cmpR op_isBl (pv 0) pe_bl (nomark _)))))), ?_⟩
    rw [st__law_says]
    try dsimp only [cxOf]
    walk_at "g"
    cases b
    · walk_at "g"
      cases a <;> exact q
    · walk_at "g"
      cases a <;> exact q
def sp_whole : Sp := fun vs H Q _ => ∃ (a b : Int), vs = [.int a, .int b] ∧ Q (.bl (decide (a = b))) H
theorem G__law_whole (T : Txt K mg) : FnOk P w K mg base CX0 1 T.f__law_whole T.fd__law_whole ["answer", "due"] sp_whole := by
  refine T.F__law_whole.ok sc__law_whole (fun vs H Q E h => ?_) (fun cdv A outer s H vs Q E hr h => ?_)
  · obtain ⟨a, b, rfl, _⟩ := h
    rfl
  · obtain ⟨a, b, rfl, q⟩ := h
    refine ⟨_, ((pss_one (ps_ret (pe_and (pe_callB call_isi (by rfl) T.z_isinstance bt_isinstance (pa_cons (pv 0) (pa_cons (pe_bltn (v := .ty "int") rfl T.z_int bt_int rfl) pa_nil))) (pe_and (pe_not (pe_callB call_isi (by rfl) T.z_isinstance bt_isinstance (pa_cons (pv 0) (pa_cons (pe_bltn (v := .ty "bool") rfl T.z_bool bt_bool rfl) pa_nil)))) (pe_one (pe_cmpR op_eq (pv 0) (pv 1) (nomark _)))))))), ?_⟩
    rw [st__law_whole]
    try dsimp only [cxOf]
    walk_at "g"
    exact q
end
end K44
namespace K44
open PySem PySem.Spec PyProof.Rows L2
local macro_rules | `(tactic| walk_at "con") => `(tactic| first | with_reducible refine Gx.conE K44.ks0 ?_ | with_reducible refine Gx.conE K44.ks1 ?_ | with_reducible refine Gx.conE K44.ks2 ?_)
section
variable {P : Program} {w : World} {K : PySem.W.Frag} {mg : Str → Option Value} {base : Heap}
def flds (s e : Int) (n : List Nat) : List (Str × V) := [(Str.ofString "start", .int s), (Str.ofString "end", .int e), (Str.ofString "new", .str (Gx.mkS n))]
theorem lk_start (s e : Int) (n : List Nat) : (flds s e n).lookup (Str.ofString "start") = some (.int s) := rfl
theorem lk_end (s e : Int) (n : List Nat) : (flds s e n).lookup (Str.ofString "end") = some (.int e) := rfl
theorem lk_new (s e : Int) (n : List Nat) : (flds s e n).lookup (Str.ofString "new") = some (.str (Gx.mkS n)) := rfl
theorem put3 (a b : Int) (c : List Nat) : putF (Str.ofString "new") (.str (Gx.mkS c)) (putF (Str.ofString "end") (.int b) (putF (Str.ofString "start") (.int a) [])) = flds a b c := rfl
def SpAt (C : Addr) (H : Hp) (p : Addr) (s e : Int) (n : List Nat) : Prop := ∃ dx, H p = some (.ins C dx (flds s e n))
theorem SpAt.same {C : Addr} {H H' : Hp} {p : Addr} {s e : Int} {n : List Nat} (h : SpAt C H p s e n) (k : Same H H') : SpAt C H' p s e n := let ⟨dx, q⟩ := h; ⟨dx, k _ _ q⟩
def sp_init (C : Addr) : Sp := fun vs H Q _ => ∃ (p dx : Addr) (s e : Int) (n : List Nat), vs = [.ref p, .int s, .int e, .str (Gx.mkS n)] ∧ H p = some (.ins C dx []) ∧
  ∀ H', H' p = some (.ins C dx (flds s e n)) → (∀ b, b ≠ p → H' b = H b) → Q .non H'
theorem G_Splice_init (T : Txt K mg) : FnOk P w K mg base CX0 1 T.f_Splice_init T.fd_Splice_init ["self", "start", "end", "new"] (sp_init T.a_Splice) := by
  refine T.F_Splice_init.ok sc_Splice_init (fun vs H Q E h => ?_) (fun cdv A outer s H vs Q E hr h => ?_)
  · obtain ⟨p, dx, s, e, n, rfl, _⟩ := h
    rfl
  · obtain ⟨p, dx, s, e, n, rfl, hp, q⟩ := h
    refine ⟨_, ((pss_cons (ps_fld (pv 0) (pv 1) rfl)
  (pss_cons (ps_fld (pv 0) (pv 2) rfl)
  (pss_one (ps_fld (pv 0) (pv 3) rfl))))), ?_⟩
    rw [st_Splice_init]
    try dsimp only [cxOf]
    walk_at "g"
    refine ⟨p, T.a_Splice, dx, _, rfl, hp, T.c_Splice, T.n_Splice_start, by decide, ?_⟩
    walk_at "g"
    refine ⟨p, T.a_Splice, dx, _, rfl, upd_same, T.c_Splice, T.n_Splice_end, (by show 1 < 1000; decide), ?_⟩
    walk_at "g"
    refine ⟨p, T.a_Splice, dx, _, rfl, upd_same, T.c_Splice, T.n_Splice_new, (by show 2 < 1000; decide), ?_⟩
    walk_at "g"
    refine q _ ?_ ?_
    · rw [upd_same, put3]
    · intro b hb
      rw [upd_ne hb, upd_ne hb, upd_ne hb]
def sp_longer (C : Addr) : Sp := fun vs H Q _ => ∃ (p : Addr) (s e : Int) (n : List Nat), vs = [.ref p] ∧ SpAt C H p s e n ∧ n.length ≤ 10000 ∧ Q (.int (n.length - (e - s))) H
theorem G_Splice_longer (T : Txt K mg) : FnOk P w K mg base CX0 1 T.f_Splice_longer T.fd_Splice_longer ["self"] (sp_longer T.a_Splice) := by
  refine T.F_Splice_longer.ok sc_Splice_longer (fun vs H Q E h => ?_) (fun cdv A outer s H vs Q E hr h => ?_)
  · obtain ⟨p, s, e, n, rfl, _⟩ := h
    rfl
  · obtain ⟨p, s, e, n, rfl, ⟨dx, hp⟩, hn, q⟩ := h
    refine ⟨_, ((pss_one (ps_ret (pe_op op_sub (pe_callB Gx.cr_lenS (by rfl) T.z_len bt_len (pa_cons (pe_fld (pv 0) rfl) pa_nil)) (pe_op op_sub (pe_fld (pv 0) rfl) (pe_fld (pv 0) rfl)))))), ?_⟩
    rw [st_Splice_longer]
    try dsimp only [cxOf]
    walk_at "g"
    refine ⟨p, T.a_Splice, dx, _, _, rfl, hp, T.c_Splice, T.n_Splice_new, lk_new _ _ _, ?_⟩
    walk_at "g"
    refine ⟨p, T.a_Splice, dx, _, _, rfl, hp, T.c_Splice, T.n_Splice_end, lk_end _ _ _, ?_⟩
    walk_at "g"
    refine ⟨p, T.a_Splice, dx, _, _, rfl, hp, T.c_Splice, T.n_Splice_start, lk_start _ _ _, ?_⟩
    walk_at "g"
    exact q
def Fits (s e : Int) (l : List Nat) : Prop := 0 ≤ s ∧ s ≤ e ∧ e ≤ l.length
instance (s e : Int) (l : List Nat) : Decidable (Fits s e l) := by unfold Fits; infer_instance
def sp_fits (C : Addr) : Sp := fun vs H Q _ => ∃ (p : Addr) (s e : Int) (n l : List Nat), vs = [.ref p, .str (Gx.mkS l)] ∧ SpAt C H p s e n ∧ l.length ≤ 10000 ∧ Q (.bl (decide (Fits s e l))) H
theorem G_Splice_fits (T : Txt K mg) : FnOk P w K mg base CX0 1 T.f_Splice_fits T.fd_Splice_fits ["self", "text"] (sp_fits T.a_Splice) := by
  refine T.F_Splice_fits.ok sc_Splice_fits (fun vs H Q E h => ?_) (fun cdv A outer s H vs Q E hr h => ?_)
  · obtain ⟨p, s, e, n, l, rfl, _⟩ := h
    rfl
  · obtain ⟨p, s, e, n, l, rfl, ⟨dx, hp⟩, hn, q⟩ := h
    refine ⟨_, ((pss_one (ps_ret (pe_and (pe_cmpR op_le pe_int (pe_fld (pv 0) rfl) (nomark _)) (pe_and (pe_cmpR op_le (pe_fld (pv 0) rfl) (pe_fld (pv 0) rfl) (nomark _)) (pe_one (pe_cmpR op_le (pe_fld (pv 0) rfl) (pe_callB Gx.cr_lenS (by rfl) T.z_len bt_len (pa_cons (pv 1) pa_nil)) (nomark _)))))))), ?_⟩
    rw [st_Splice_fits]
    try dsimp only [cxOf]
    walk_at "g"
    refine ⟨p, T.a_Splice, dx, _, _, rfl, hp, T.c_Splice, T.n_Splice_start, lk_start _ _ _, ?_⟩
    walk_at "g"
    refine Gx.iteD (fun h1 => ?_) (fun h1 => ?_)
    · walk_at "g"
      refine ⟨p, T.a_Splice, dx, _, _, rfl, hp, T.c_Splice, T.n_Splice_start, lk_start _ _ _, ?_⟩
      walk_at "g"
      refine ⟨p, T.a_Splice, dx, _, _, rfl, hp, T.c_Splice, T.n_Splice_end, lk_end _ _ _, ?_⟩
      walk_at "g"
      refine Gx.iteD (fun h2 => ?_) (fun h2 => ?_)
      · walk_at "g"
        refine ⟨p, T.a_Splice, dx, _, _, rfl, hp, T.c_Splice, T.n_Splice_end, lk_end _ _ _, ?_⟩
        walk_at "g"
        rw [show decide (e ≤ (l.length : Int)) = decide (Fits s e l) from decide_eq_decide.mpr ⟨fun h => ⟨h1, h2, h⟩, fun h => h.2.2⟩]
        exact q
      · walk_at "g"
        rw [show decide (Fits s e l) = false from decide_eq_false fun h => h2 h.2.1] at q
        exact q
    · walk_at "g"
      rw [show decide (Fits s e l) = false from decide_eq_false fun h => h1 h.1] at q
      exact q
def sp_call (C B : Addr) : Sp := fun vs H Q E => ∃ (p : Addr) (s e : Int) (n l : List Nat), vs = [.ref p, .str (Gx.mkS l)] ∧ SpAt C H p s e n ∧ l.length ≤ 10000 ∧ n.length ≤ 10000 ∧
  (Fits s e l → Q (.str (Gx.mkS (l.take s.toNat ++ n ++ l.drop e.toNat))) H) ∧ (¬ Fits s e l → E (.ref B) none H)
theorem G_Splice_call (T : Txt K mg) : FnOk P w K mg base (L2.CX P w) 2 T.f_Splice_call T.fd_Splice_call ["self", "text"] (sp_call T.a_Splice T.a_BadSplice) := by
  have G_Splice_fits := G_Splice_fits (P := P) (w := w) (base := base) T
  refine T.F_Splice_call.okX sc_Splice_call (fun vs H Q E h => ?_) (fun cdv A outer s H vs Q E hr h => ?_)
  · obtain ⟨p, s, e, n, l, rfl, _⟩ := h
    rfl
  · obtain ⟨p, s, e, n, l, rfl, ⟨dx, hp⟩, hl, hn, q1, q2⟩ := h
    refine ⟨_, ((pss_cons (ps_if (pt_not (pt_val (pe_meth (pv 0) T.c_Splice T.m_Splice_fits G_Splice_fits (hr.mono (by decide)) T.b_Splice_fits .nil pass0 (pa_cons (pv 1) pa_nil))))
  (pss_one (ps_raise rfl (takes_of rfl rfl rfl rfl) (Gx.pmk_own0 PySem.F.excBase_ValueError T.x_BadSplice T.g_BadSplice T.k_BadSplice (raises_own T.bP_BadSplice T.tP_BadSplice) rfl)))
  pss_nil)
  (pss_one (ps_ret (pe_op Gx.op_addS (pe_op Gx.op_addS (pe_slice sl_str (pv 1) po_none (po_some (pe_fld (pv 0) rfl))) (pe_fld (pv 0) rfl)) (pe_slice sl_str (pv 1) (po_some (pe_fld (pv 0) rfl)) po_none)))))), ?_⟩
    rw [st_Splice_call]
    try dsimp only [cxOf]
    walk_at "g"
    refine ⟨p, dx, _, rfl, hp, rfl, ?_⟩
    walk_at "g"
    refine ⟨p, s, e, n, l, rfl, ⟨dx, hp⟩, hl, ?_⟩
    walk_at "g"
    refine Gx.iteDn (fun hf => ?_) (fun hf => ?_)
    · exact q2 hf
    · obtain ⟨h1, h2, h3⟩ := id hf
      walk_at "g"
      refine ⟨p, T.a_Splice, dx, _, _, rfl, hp, T.c_Splice, T.n_Splice_start, lk_start _ _ _, ?_⟩
      walk_at "g"
      refine ⟨p, T.a_Splice, dx, _, _, rfl, hp, T.c_Splice, T.n_Splice_new, lk_new _ _ _, ?_⟩
      walk_at "g"
      refine ⟨p, T.a_Splice, dx, _, _, rfl, hp, T.c_Splice, T.n_Splice_end, lk_end _ _ _, ?_⟩
      walk_at "g"
      exact q1 hf
def sp_back (C B : Addr) : Sp := fun vs H Q E => ∃ (p : Addr) (s e : Int) (n l : List Nat), vs = [.ref p, .str (Gx.mkS l)] ∧ SpAt C H p s e n ∧ l.length ≤ 10000 ∧ n.length ≤ 10000 ∧
  (Fits s e l → ∀ H' q, Same H H' → SpAt C H' q s (s + n.length) ((l.take e.toNat).drop s.toNat) → Q (.ref q) H') ∧ (¬ Fits s e l → E (.ref B) none H)
theorem G_Splice_back (T : Txt K mg) : FnOk P w K mg base (L2.CX P w) 3 T.f_Splice_back T.fd_Splice_back ["self", "text"] (sp_back T.a_Splice T.a_BadSplice) := by
  have G_Splice_fits := G_Splice_fits (P := P) (w := w) (base := base) T
  have G_Splice_init := G_Splice_init (P := P) (w := w) (base := base) T
  refine T.F_Splice_back.okX sc_Splice_back (fun vs H Q E h => ?_) (fun cdv A outer s H vs Q E hr h => ?_)
  · obtain ⟨p, s, e, n, l, rfl, _⟩ := h
    rfl
  · obtain ⟨p, s, e, n, l, rfl, ⟨dx, hp⟩, hl, hn, q1, q2⟩ := h
    refine ⟨_, ((pss_cons (ps_if (pt_not (pt_val (pe_meth (pv 0) T.c_Splice T.m_Splice_fits G_Splice_fits (hr.mono (by decide)) T.b_Splice_fits .nil pass0 (pa_cons (pv 1) pa_nil))))
  (pss_one (ps_raise rfl (takes_of rfl rfl rfl rfl) (Gx.pmk_own0 PySem.F.excBase_ValueError T.x_BadSplice T.g_BadSplice T.k_BadSplice (raises_own T.bP_BadSplice T.tP_BadSplice) rfl)))
  pss_nil)
  (pss_one (ps_ret (pe_make T.M_Splice G_Splice_init (hr.mono (by decide)) (by rfl) T.g_Splice T.b_Splice_init .nil pass0 (pa_cons (pe_fld (pv 0) rfl) (pa_cons (pe_op op_add (pe_fld (pv 0) rfl) (pe_callB Gx.cr_lenS (by rfl) T.z_len bt_len (pa_cons (pe_fld (pv 0) rfl) pa_nil))) (pa_cons (pe_slice sl_str (pv 1) (po_some (pe_fld (pv 0) rfl)) (po_some (pe_fld (pv 0) rfl))) pa_nil)))))))), ?_⟩
    rw [st_Splice_back]
    try dsimp only [cxOf]
    walk_at "g"
    refine ⟨p, dx, _, rfl, hp, rfl, ?_⟩
    walk_at "g"
    refine ⟨p, s, e, n, l, rfl, ⟨dx, hp⟩, hl, ?_⟩
    walk_at "g"
    refine Gx.iteDn (fun hf => ?_) (fun hf => ?_)
    · exact q2 hf
    · obtain ⟨h1, h2, h3⟩ := id hf
      walk_at "g"
      refine ⟨p, T.a_Splice, dx, _, _, rfl, hp, T.c_Splice, T.n_Splice_start, lk_start _ _ _, ?_⟩
      walk_at "g"
      refine ⟨p, T.a_Splice, dx, _, _, rfl, hp, T.c_Splice, T.n_Splice_start, lk_start _ _ _, ?_⟩
      walk_at "g"
      refine ⟨p, T.a_Splice, dx, _, _, rfl, hp, T.c_Splice, T.n_Splice_new, lk_new _ _ _, ?_⟩
      walk_at "g"
      refine ⟨p, T.a_Splice, dx, _, _, rfl, hp, T.c_Splice, T.n_Splice_start, lk_start _ _ _, ?_⟩
      walk_at "g"
      refine ⟨p, T.a_Splice, dx, _, _, rfl, hp, T.c_Splice, T.n_Splice_end, lk_end _ _ _, ?_⟩
      walk_at "g"
      intro x dy nx ndy ne
      refine ⟨x, dy, _, _, _, rfl, upd_same, fun H' e1 e2 => ⟨rfl, ?_⟩⟩
      walk_at "g"
      exact q1 hf H' x (Gx.made_same nx ndy e2) ⟨dy, e1⟩
def sp_eq (K : PySem.W.Frag) (C : Addr) : Sp := fun vs H Q _ => ∃ (p : Addr) (y : V) (s e : Int) (n : List Nat), vs = [.ref p, y] ∧ SpAt C H p s e n ∧
  ((∃ (p2 : Addr) (s2 e2 : Int) (n2 : List Nat), y = .ref p2 ∧ SpAt C H p2 s2 e2 n2 ∧ Q (.bl (decide (s = s2 ∧ e = e2 ∧ n = n2))) H) ∨
   (∃ t : Value, TyX K H y t ∧ PySem.W.kitOne K t (.ref C) = some false ∧ Q (.bl false) H))
theorem G_Splice_eq (T : Txt K mg) : FnOk P w K mg base CX0 1 T.f_Splice_eq T.fd_Splice_eq ["self", "other"] (sp_eq K T.a_Splice) := by
  refine T.F_Splice_eq.ok sc_Splice_eq (fun vs H Q E h => ?_) (fun cdv A outer s H vs Q E hr h => ?_)
  · obtain ⟨p, y, s, e, n, rfl, _⟩ := h
    rfl
  · obtain ⟨p, y, s, e, n, rfl, ⟨dx, hp⟩, hq⟩ := h
    refine ⟨_, ((pss_cons (ps_if (pt_not (pt_val (pe_callB call_isi (by rfl) T.z_isinstance bt_isinstance (pa_cons (pv 1) (pa_cons (pe_glob (v := .ref T.a_Splice) rfl T.g_Splice rfl) pa_nil)))))
  (pss_one (ps_ret pe_bl))
  pss_nil)
  (pss_one (ps_ret (pe_and (pe_cmpR op_eq (pe_fld (pv 0) rfl) (pe_fld (pv 1) rfl) (nomark _)) (pe_and (pe_cmpR op_eq (pe_fld (pv 0) rfl) (pe_fld (pv 1) rfl) (nomark _)) (pe_one (pe_cmpR op_eq (pe_fld (pv 0) rfl) (pe_fld (pv 1) rfl) (nomark _))))))))), ?_⟩
    rw [st_Splice_eq]
    try dsimp only [cxOf]
    walk_at "g"
    have tyS : ∀ {p dx fs}, H p = some (.ins T.a_Splice dx fs) → TyX K H (.ref p) (.ref T.a_Splice) := fun h => .base (.ins h T.c_Splice T.ha_Splice T.hn_ T.htk_ T.hm_Splice)
    rcases hq with ⟨p2, s2, e2, n2, rfl, ⟨dx2, hp2⟩, q⟩ | ⟨t, ty, kt, q⟩
    · refine Gx.isi (.own _) (tyS hp2) (b := true) (by simp [PySem.W.kitOne]) ?_
      walk_at "g"
      refine ⟨p, T.a_Splice, dx, _, _, rfl, hp, T.c_Splice, T.n_Splice_start, lk_start _ _ _, ?_⟩
      walk_at "g"
      refine ⟨p2, T.a_Splice, dx2, _, _, rfl, hp2, T.c_Splice, T.n_Splice_start, lk_start _ _ _, ?_⟩
      walk_at "g"
      refine Gx.iteD (fun h1 => ?_) (fun h1 => ?_)
      · walk_at "g"
        refine ⟨p, T.a_Splice, dx, _, _, rfl, hp, T.c_Splice, T.n_Splice_end, lk_end _ _ _, ?_⟩
        walk_at "g"
        refine ⟨p2, T.a_Splice, dx2, _, _, rfl, hp2, T.c_Splice, T.n_Splice_end, lk_end _ _ _, ?_⟩
        walk_at "g"
        refine Gx.iteD (fun h2 => ?_) (fun h2 => ?_)
        · walk_at "g"
          refine ⟨p, T.a_Splice, dx, _, _, rfl, hp, T.c_Splice, T.n_Splice_new, lk_new _ _ _, ?_⟩
          walk_at "g"
          refine ⟨p2, T.a_Splice, dx2, _, _, rfl, hp2, T.c_Splice, T.n_Splice_new, lk_new _ _ _, ?_⟩
          walk_at "g"
          rw [show decide (s = s2 ∧ e = e2 ∧ n = n2) = decide (n = n2) from decide_eq_decide.mpr ⟨fun h => h.2.2, fun h => ⟨h1, h2, h⟩⟩] at q
          exact q
        · walk_at "g"
          rw [show decide (s = s2 ∧ e = e2 ∧ n = n2) = false from decide_eq_false fun h => h2 h.2.1] at q
          exact q
      · walk_at "g"
        rw [show decide (s = s2 ∧ e = e2 ∧ n = n2) = false from decide_eq_false fun h => h1 h.1] at q
        exact q
    · refine Gx.isi (.own _) ty kt ?_
      walk_at "g"
      exact q
end
end K44
namespace K44
open PySem PySem.Spec PyProof.Rows L2
local macro_rules | `(tactic| walk_at "con") => `(tactic| first | with_reducible refine Gx.conE K44.ks0 ?_ | with_reducible refine Gx.conE K44.ks1 ?_ | with_reducible refine Gx.conE K44.ks2 ?_)
section
variable {P : Program} {w : World} {K : PySem.W.Frag} {mg : Str → Option Value} {base : Heap}
theorem tyS (T : Txt K mg) {H : Hp} {p dx : Addr} {fs : List (Str × V)} (h : H p = some (.ins T.a_Splice dx fs)) : TyX K H (.ref p) (.ref T.a_Splice) := .base (.ins h T.c_Splice T.ha_Splice T.hn_ T.htk_ T.hm_Splice)
def sp_is (C : Addr) : Sp := fun vs H Q _ => ∃ (p : Addr) (s e : Int) (n : List Nat), vs = [.ref p, .int s, .int e, .str (Gx.mkS n)] ∧ SpAt C H p s e n ∧ n.length ≤ 10000 ∧ Q (.bl true) H
theorem G__law_is (T : Txt K mg) : FnOk P w K mg base CX0 3 T.f__law_is T.fd__law_is ["splice", "start", "end", "new"] (sp_is T.a_Splice) := by
  have G__law_whole := G__law_whole (P := P) (w := w) (base := base) T
  have G_Splice_longer := G_Splice_longer (P := P) (w := w) (base := base) T
  refine T.F__law_is.ok sc__law_is (fun vs H Q E h => ?_) (fun cdv A outer s H vs Q E hr h => ?_)
  · obtain ⟨p, s, e, n, rfl, _⟩ := h
    rfl
  · obtain ⟨p, s, e, n, rfl, ⟨dx, hp⟩, hn, q⟩ := h
    refine ⟨_, ((pss_cons (ps_if (PW.pt (pw_or (pt_not (pt_val (pe_callB call_isi (by rfl) T.z_isinstance bt_isinstance (pa_cons (pv 0) (pa_cons (pe_glob (v := .ref T.a_Splice) rfl T.g_Splice rfl) pa_nil))))) (pw_or (pt_not (pt_val (pe_call G__law_whole (hr.mono (by decide)) (by rfl) T.g__law_whole T.F__law_whole.kp T.b__law_whole .nil pass0 (pa_cons (pe_fld (pv 0) rfl) (pa_cons (pv 1) pa_nil))))) (pw_or1 (pt_not (pt_val (pe_call G__law_whole (hr.mono (by decide)) (by rfl) T.g__law_whole T.F__law_whole.kp T.b__law_whole .nil pass0 (pa_cons (pe_fld (pv 0) rfl) (pa_cons (pv 2) pa_nil)))))))))
  (pss_one (ps_ret pe_bl))
  pss_nil)
  (pss_cons (ps_if (PW.pt (pw_or (pt_not (pt_val (pe_callB call_isi (by rfl) T.z_isinstance bt_isinstance (pa_cons (pe_fld (pv 0) rfl) (pa_cons (pe_bltn (v := .ty "str") rfl T.z_str bt_str rfl) pa_nil))))) (pw_or1 (pt_cmpR op_ne (pe_fld (pv 0) rfl) (pv 3) (nomark _)))))
  (pss_one (ps_ret pe_bl))
  pss_nil)
  (pss_one (ps_ret (pe_call G__law_whole (hr.mono (by decide)) (by rfl) T.g__law_whole T.F__law_whole.kp T.b__law_whole .nil pass0 (pa_cons (pe_prop (pv 0) T.c_Splice T.pr_Splice_longer G_Splice_longer (hr.mono (by decide)) T.b_Splice_longer .nil pass0 rfl) (pa_cons (pe_op op_sub (pe_op op_add (pe_callB Gx.cr_lenS (by rfl) T.z_len bt_len (pa_cons (pv 3) pa_nil)) (pv 1)) (pv 2)) pa_nil)))))))), ?_⟩
    rw [st__law_is]
    try dsimp only [cxOf]
    walk_at "g"
    refine Gx.isi (.own _) (tyS T hp) (b := true) (by simp [PySem.W.kitOne]) ?_
    walk_at "g"
    refine ⟨p, T.a_Splice, dx, _, _, rfl, hp, T.c_Splice, T.n_Splice_start, lk_start _ _ _, ?_⟩
    walk_at "g"
    refine ⟨s, s, rfl, ?_⟩
    rw [decide_eq_true (rfl : s = s)]
    walk_at "g"
    refine ⟨p, T.a_Splice, dx, _, _, rfl, hp, T.c_Splice, T.n_Splice_end, lk_end _ _ _, ?_⟩
    walk_at "g"
    refine ⟨e, e, rfl, ?_⟩
    rw [decide_eq_true (rfl : e = e)]
    walk_at "g"
    refine ⟨p, T.a_Splice, dx, _, _, rfl, hp, T.c_Splice, T.n_Splice_new, lk_new _ _ _, ?_⟩
    walk_at "g"
    refine ⟨p, T.a_Splice, dx, _, _, rfl, hp, T.c_Splice, T.n_Splice_new, lk_new _ _ _, ?_⟩
    walk_at "g"
    rw [decide_eq_true (rfl : n = n)]
    walk_at "g"
    refine ⟨p, dx, _, rfl, hp, p, s, e, n, rfl, ⟨dx, hp⟩, hn, ?_⟩
    walk_at "g"
    refine ⟨_, _, rfl, ?_⟩
    rw [decide_eq_true (by omega)]
    exact q
def sp_raises (C : Addr) : Sp := fun vs H Q _ => ∃ (p : Addr) (s e : Int) (n l : List Nat), vs = [.ref p, .str (Gx.mkS l)] ∧ SpAt C H p s e n ∧ n.length ≤ 10000 ∧ l.length ≤ 10000 ∧ ¬ Fits s e l ∧ Q (.bl true) H
theorem ecB (T : Txt K mg) : ExcC K T.a_BadSplice := ⟨T.ecg, T.eck, T.bP_BadSplice, T.ecd, T.eca, T.hn_, T.htk_, T.ecm⟩
theorem G__law_call_raises (T : Txt K mg) : FnOk P w K mg base CX0 5 T.f__law_call_raises T.fd__law_call_raises ["splice", "text"] (sp_raises T.a_Splice) := by
  have G_Splice_call := G_Splice_call (P := P) (w := w) (base := base) T
  have ec := ecB T
  refine T.F__law_call_raises.ok sc__law_call_raises (fun vs H Q E h => ?_) (fun cdv A outer s H vs Q E hr h => ?_)
  · obtain ⟨p, s, e, n, l, rfl, _⟩ := h
    rfl
  · obtain ⟨p, s, e, n, l, rfl, ⟨dx, hp⟩, hn, hl, nf, q⟩ := h
    have hr2 : Room 2 _ := hr.mono (by decide)
    refine ⟨_, ((C8.pss_cut (ps_try_as (i := 2) (tb := fun W => tDrop (Gx.tCallOS T.a_Splice (sp_call T.a_Splice T.a_BadSplice) (WE W) (tVar 0) (tCons (tVar 1) tNil))) (ts := fun a cls d => tRet (tCB (Gx.rIsE' K T.a_BadSplice a cls d) (tCons (tVar 2) (tCons (tC (.ref T.a_BadSplice)) tNil)))) (Wout := fun _ _ _ _ => False) rfl rfl sc__law_call_raises.nd rfl rfl ⟨rfl, by decide, .inl T.g_LensError⟩ takes0 (fun W pn xe tk _ => pss_one (ps_expr (by exact (Gx.pe_callOS (pv 0) ⟨T.m_Splice_call.at_, T.m_Splice_call.fn, T.fi_Splice⟩ G_Splice_call hr2 T.b_Splice_call (fun σ => passAt tk σ) (by exact (pa_cons (pv 1) pa_nil)))))) (fun a oe cls d pn hz hf => pss_one (ps_ret (by exact (pe_callB (Gx.cr_isE ec hz hf) (by rfl) T.z_isinstance bt_isinstance (by exact (pa_cons (pv 2) (pa_cons (pe_glob (v := .ref T.a_BadSplice) rfl T.g_BadSplice rfl) pa_nil))))))))
  (pss_one (ps_ret pe_bl)))), ?_⟩
    rw [st__law_call_raises]
    try dsimp only [cxOf]
    walk_at "g"
    refine ⟨fun _ _ => False, ?_, fun σ' H' z => z.elim⟩
    show tDrop _ _ _ _
    walk_at "g"
    refine ⟨⟨dx, _, hp⟩, p, s, e, n, l, rfl, ⟨dx, hp⟩, hl, hn, fun hf => absurd hf nf, fun _ => ?_⟩
    refine ⟨true, T.em_bl, fun _ a na => ?_, fun z => nomatch z⟩
    walk_at "g"
    refine ⟨rfl, rfl, V.ref T.a_BadSplice, .ref T.a_BadSplice, true, rfl, fun u r => r, by simp [PySem.W.kitOne], ?_⟩
    exact q
theorem G__law_back_raises (T : Txt K mg) : FnOk P w K mg base CX0 5 T.f__law_back_raises T.fd__law_back_raises ["splice", "text"] (sp_raises T.a_Splice) := by
  have G_Splice_back := G_Splice_back (P := P) (w := w) (base := base) T
  have ec := ecB T
  refine T.F__law_back_raises.ok sc__law_back_raises (fun vs H Q E h => ?_) (fun cdv A outer s H vs Q E hr h => ?_)
  · obtain ⟨p, s, e, n, l, rfl, _⟩ := h
    rfl
  · obtain ⟨p, s, e, n, l, rfl, ⟨dx, hp⟩, hn, hl, nf, q⟩ := h
    have hr2 : Room 3 _ := hr.mono (by decide)
    refine ⟨_, ((C8.pss_cut (ps_try_as (i := 2) (tb := fun W => tDrop (Gx.tMethS T.a_Splice (Str.ofString "back") (sp_back T.a_Splice T.a_BadSplice) (WE W) (tVar 0) (tCons (tVar 1) tNil))) (ts := fun a cls d => tRet (tCB (Gx.rIsE' K T.a_BadSplice a cls d) (tCons (tVar 2) (tCons (tC (.ref T.a_BadSplice)) tNil)))) (Wout := fun _ _ _ _ => False) rfl rfl sc__law_back_raises.nd rfl rfl ⟨rfl, by decide, .inl T.g_LensError⟩ takes0 (fun W pn xe tk _ => pss_one (ps_expr (by exact (Gx.pe_methS (pv 0) T.c_Splice T.m_Splice_back G_Splice_back hr2 T.b_Splice_back (fun σ => passAt tk σ) (by exact (pa_cons (pv 1) pa_nil)))))) (fun a oe cls d pn hz hf => pss_one (ps_ret (by exact (pe_callB (Gx.cr_isE ec hz hf) (by rfl) T.z_isinstance bt_isinstance (by exact (pa_cons (pv 2) (pa_cons (pe_glob (v := .ref T.a_BadSplice) rfl T.g_BadSplice rfl) pa_nil))))))))
  (pss_one (ps_ret pe_bl)))), ?_⟩
    rw [st__law_back_raises]
    try dsimp only [cxOf]
    walk_at "g"
    refine ⟨fun _ _ => False, ?_, fun σ' H' z => z.elim⟩
    show tDrop _ _ _ _
    walk_at "g"
    refine ⟨p, dx, _, rfl, hp, rfl, ?_⟩
    walk_at "g"
    refine ⟨p, s, e, n, l, rfl, ⟨dx, hp⟩, hl, hn, fun hf => absurd hf nf, fun _ => ?_⟩
    refine ⟨true, T.em_bl, fun _ a na => ?_, fun z => nomatch z⟩
    walk_at "g"
    refine ⟨rfl, rfl, V.ref T.a_BadSplice, .ref T.a_BadSplice, true, rfl, fun u r => r, by simp [PySem.W.kitOne], ?_⟩
    exact q
end
end K44
namespace K44
open PySem PySem.Spec PyProof.Rows L2
local macro_rules | `(tactic| walk_at "con") => `(tactic| first | with_reducible refine Gx.conE K44.ks0 ?_ | with_reducible refine Gx.conE K44.ks1 ?_ | with_reducible refine Gx.conE K44.ks2 ?_)
section
variable {P : Program} {w : World} {K : PySem.W.Frag} {mg : Str → Option Value} {base : Heap}
/-! ### the mathematics of between -/
def most (a b : List Nat) : Nat := min a.length b.length
def LP (a b : List Nat) (f : Nat) : Prop := f ≤ most a b ∧ a.take f = b.take f ∧ ∀ k, k ≤ most a b → a.take k = b.take k → k ≤ f
def LS (a b : List Nat) (f z : Nat) : Prop := z ≤ most a b - f ∧ a.drop (a.length - z) = b.drop (b.length - z) ∧ ∀ k, k ≤ most a b - f → a.drop (a.length - k) = b.drop (b.length - k) → k ≤ z
theorem LP.eq {a b : List Nat} {f g : Nat} (x : LP a b f) (y : LP a b g) : f = g := Nat.le_antisymm (y.2.2 f x.1 x.2.1) (x.2.2 g y.1 y.2.1)
theorem LS.eq {a b : List Nat} {f z u : Nat} (x : LS a b f z) (y : LS a b f u) : z = u := Nat.le_antisymm (y.2.2 z x.1 x.2.1) (x.2.2 u y.1 y.2.1)
theorem getD_at {a : List Nat} {i : Nat} (h : i < a.length) : a.getD i 0 = a[i] := by
  rw [List.getD_eq_getElem?_getD, List.getElem?_eq_getElem h]
  rfl
theorem take_get {a b : List Nat} {i k : Nat} (e : a.take k = b.take k) (h : i < k) : a.getD i 0 = b.getD i 0 := by
  have h1 := congrArg (fun l => l.getD i 0) e
  simp only [List.getD_eq_getElem?_getD, List.getElem?_take, h, if_true] at h1
  rw [List.getD_eq_getElem?_getD, List.getD_eq_getElem?_getD]
  exact h1
theorem take_next {a b : List Nat} {i : Nat} (e : a.take i = b.take i) (ha : i < a.length) (hb : i < b.length) (g : a.getD i 0 = b.getD i 0) : a.take (i + 1) = b.take (i + 1) := by
  rw [List.take_succ_eq_append_getElem ha, List.take_succ_eq_append_getElem hb, e, ← getD_at ha, ← getD_at hb, g]
theorem drop_next {a b : List Nat} {i : Nat} (e : a.drop (a.length - i) = b.drop (b.length - i)) (ha : i < a.length) (hb : i < b.length) (g : a.getD (a.length - 1 - i) 0 = b.getD (b.length - 1 - i) 0) :
    a.drop (a.length - (i + 1)) = b.drop (b.length - (i + 1)) := by
  have h1 : a.length - (i + 1) < a.length := by omega
  have h2 : b.length - (i + 1) < b.length := by omega
  rw [List.drop_eq_getElem_cons h1, List.drop_eq_getElem_cons h2, show a.length - (i + 1) + 1 = a.length - i by omega, show b.length - (i + 1) + 1 = b.length - i by omega, e]
  rw [getD_at (by omega), getD_at (by omega)] at g
  congr 1
  have e1 : a.length - 1 - i = a.length - (i + 1) := by omega
  have e2 : b.length - 1 - i = b.length - (i + 1) := by omega
  simp only [e1, e2] at g
  exact g
theorem drop_get {a b : List Nat} {i k : Nat} (e : a.drop (a.length - k) = b.drop (b.length - k)) (h : i < k) (ha : k ≤ a.length) (hb : k ≤ b.length) : a.getD (a.length - 1 - i) 0 = b.getD (b.length - 1 - i) 0 := by
  have h1 := congrArg (fun l => l.getD (k - 1 - i) 0) e
  simp only [List.getD_eq_getElem?_getD, List.getElem?_drop] at h1
  rw [List.getD_eq_getElem?_getD, List.getD_eq_getElem?_getD]
  rw [show a.length - 1 - i = a.length - k + (k - 1 - i) by omega, show b.length - 1 - i = b.length - k + (k - 1 - i) by omega]
  exact h1
theorem LP.stop {a b : List Nat} {i : Nat} (e : a.take i = b.take i) (h : i ≤ most a b) (g : i = most a b ∨ a.getD i 0 ≠ b.getD i 0) : LP a b i := ⟨h, e, fun k hk e' => by
  rcases g with g | g
  · omega
  · apply Nat.le_of_not_lt
    intro hl
    exact g (take_get e' hl)⟩
theorem LS.stop {a b : List Nat} {f i : Nat} (e : a.drop (a.length - i) = b.drop (b.length - i)) (h : i ≤ most a b - f) (g : i = most a b - f ∨ a.getD (a.length - 1 - i) 0 ≠ b.getD (b.length - 1 - i) 0) : LS a b f i := ⟨h, e, fun k hk e' => by
  rcases g with g | g
  · omega
  · apply Nat.le_of_not_lt
    intro hl
    unfold most at hk
    exact g (drop_get e' hl (by omega) (by omega))⟩
/-- the middle of new -/
def mid (b : List Nat) (f z : Nat) : List Nat := (b.take (b.length - z)).drop f
theorem joined {a b : List Nat} {f z : Nat} (x : LP a b f) (y : LS a b f z) : a.take f ++ mid b f z ++ a.drop (a.length - z) = b := by
  obtain ⟨h1, h2, _⟩ := x
  obtain ⟨h3, h4, _⟩ := y
  unfold most at h1 h3
  rw [h2, h4]
  unfold mid
  have e : (b.take (b.length - z)).take f = b.take f := by
    rw [List.take_take, Nat.min_eq_left (by omega)]
  rw [← e, List.take_append_drop, List.take_append_drop]
end
end K44
namespace K44
open PySem PySem.Spec PyProof.Rows L2
local macro_rules | `(tactic| walk_at "con") => `(tactic| first | with_reducible refine Gx.conE K44.ks0 ?_ | with_reducible refine Gx.conE K44.ks1 ?_ | with_reducible refine Gx.conE K44.ks2 ?_)
section
variable {P : Program} {w : World} {K : PySem.W.Frag} {mg : Str → Option Value} {base : Heap}
def sp_between (C : Addr) : Sp := fun vs H Q _ => ∃ (a b : List Nat), vs = [.str (Gx.mkS a), .str (Gx.mkS b)] ∧ a.length ≤ 1000 ∧ b.length ≤ 1000 ∧
  ∀ H' q f z, Same H H' → LP a b f → LS a b f z → SpAt C H' q f ((a.length : Int) - (z : Nat)) (mid b f z) → Q (.ref q) H'
theorem G_between (T : Txt K mg) : FnOk P w K mg base CX0 3 T.f_between T.fd_between ["old", "new"] (sp_between T.a_Splice) := by
  have G_Splice_init := G_Splice_init (P := P) (w := w) (base := base) T
  refine T.F_between.ok sc_between (fun vs H Q E h => ?_) (fun cdv A outer s H vs Q E hr h => ?_)
  · obtain ⟨a, b, rfl, _⟩ := h
    rfl
  · obtain ⟨a, b, rfl, ha, hb, q⟩ := h
    refine ⟨_, ((pss_cons (ps_set (i := 2) sc_between.nd rfl (Or.inl rfl) (pe_callB (Gx.cr_min2 rfl) (by rfl) T.z_min bt_min (pa_cons (pe_callB Gx.cr_lenS (by rfl) T.z_len bt_len (pa_cons (pv 0) pa_nil)) (pa_cons (pe_callB Gx.cr_lenS (by rfl) T.z_len bt_len (pa_cons (pv 1) pa_nil)) pa_nil))))
  (pss_cons (ps_set (i := 3) sc_between.nd rfl (Or.inl rfl) pe_int)
  (C8.pss_cut (ps_for PassesOwn.never rfl (pi_range1 rfl T.z_range (pa_cons (pv 2) pa_nil)) (pg_name (i := 4) sc_between.nd rfl (Or.inl rfl))
  (pss_cons (ps_if (pt_cmpR op_ne (pe_ix ix_str (pv 0) (pv 4) (fun _ _ => rfl)) (pe_ix ix_str (pv 1) (pv 4) (fun _ _ => rfl)) (nomark _))
  (pss_one ps_break)
  pss_nil)
  (pss_one (ps_aug (i := 3) sc_between.nd rfl (Or.inl rfl) pe_int ip_add))))
  (pss_cons (ps_set (i := 5) sc_between.nd rfl (Or.inl rfl) pe_int)
  (C8.pss_cut (ps_for PassesOwn.never rfl (pi_range1 rfl T.z_range (pa_cons (pe_op op_sub (pv 2) (pv 3)) pa_nil)) (pg_name (i := 4) sc_between.nd rfl (Or.inl rfl))
  (pss_cons (ps_if (pt_cmpR op_ne (pe_ix ix_str (pv 0) (pe_op op_sub (pe_op op_sub (pe_callB Gx.cr_lenS (by rfl) T.z_len bt_len (pa_cons (pv 0) pa_nil)) pe_int) (pv 4)) (fun _ _ => rfl)) (pe_ix ix_str (pv 1) (pe_op op_sub (pe_op op_sub (pe_callB Gx.cr_lenS (by rfl) T.z_len bt_len (pa_cons (pv 1) pa_nil)) pe_int) (pv 4)) (fun _ _ => rfl)) (nomark _))
  (pss_one ps_break)
  pss_nil)
  (pss_one (ps_aug (i := 5) sc_between.nd rfl (Or.inl rfl) pe_int ip_add))))
  (pss_one (ps_ret (pe_make T.M_Splice G_Splice_init (hr.mono (by decide)) (by rfl) T.g_Splice T.b_Splice_init .nil pass0 (pa_cons (pv 3) (pa_cons (pe_op op_sub (pe_callB Gx.cr_lenS (by rfl) T.z_len bt_len (pa_cons (pv 0) pa_nil)) (pv 5)) (pa_cons (pe_slice sl_str (pv 1) (po_some (pv 3)) (po_some (pe_op op_sub (pe_callB Gx.cr_lenS (by rfl) T.z_len bt_len (pa_cons (pv 1) pa_nil)) (pv 5)))) pa_nil)))))))))))), ?_⟩
    rw [st_between]
    try dsimp only [cxOf]
    walk_at "g"
    have hm : (if (b.length : Int) < a.length then (b.length : Int) else a.length) = (most a b : Nat) := by
      unfold most
      split <;> omega
    rw [hm]
    have hm1 : most a b ≤ a.length := Nat.min_le_left _ _
    have hm2 : most a b ≤ b.length := Nat.min_le_right _ _
    refine ⟨fun σ H1 => ∃ (f : Nat) (y : Option V), H1 = H ∧ LP a b f ∧ σ = [some (.str (Gx.mkS a)), some (.str (Gx.mkS b)), some (.int (most a b : Nat)), some (.int (f : Nat)), y, none], ?_, ?_⟩
    · walk_at "g"
      refine ⟨_, rfl, by omega, by omega, for_range (fun i σ H1 => ∃ (y : Option V), H1 = H ∧ a.take i = b.take i ∧ i ≤ most a b ∧ σ = [some (.str (Gx.mkS a)), some (.str (Gx.mkS b)), some (.int (most a b : Nat)), some (.int (i : Nat)), y, none])
        ⟨none, rfl, rfl, Nat.zero_le _, rfl⟩ ?_ ?_⟩
      · rintro i σ H1 hi ⟨y, rfl, et, hi2, rfl⟩
        rw [Int.toNat_natCast] at hi
        walk_at "g"
        have ei : (0 + (i : Int)).toNat = i := by omega
        rw [ei]
        refine Gx.iteDn (fun h => ?_) (fun h => ?_)
        · walk_at "g"
          exact ⟨i, _, rfl, LP.stop et hi2 (.inr fun e => h (by rw [e])), rfl⟩
        · walk_at "g"
          exact ⟨_, rfl, take_next et (by omega) (by omega) (by simpa using h), by omega, rfl⟩
      · rintro σ H1 ⟨y, rfl, et, hi2, rfl⟩
        rw [Int.toNat_natCast] at et ⊢
        walk_at "g"
        exact ⟨most a b, y, rfl, LP.stop et (Nat.le_refl _) (.inl rfl), rfl⟩
    · rintro σ H1 ⟨f, y, rfl, lp, rfl⟩
      walk_at "g"
      refine ⟨fun σ H2 => ∃ (z : Nat) (y : Option V), H2 = H1 ∧ LS a b f z ∧ σ = [some (.str (Gx.mkS a)), some (.str (Gx.mkS b)), some (.int (most a b : Nat)), some (.int (f : Nat)), y, some (.int (z : Nat))], ?_, ?_⟩
      · have hf := lp.1
        walk_at "g"
        refine ⟨_, rfl, by omega, by omega, for_range (fun i σ H2 => ∃ (y : Option V), H2 = H1 ∧ a.drop (a.length - i) = b.drop (b.length - i) ∧ i ≤ most a b - f ∧ σ = [some (.str (Gx.mkS a)), some (.str (Gx.mkS b)), some (.int (most a b : Nat)), some (.int (f : Nat)), y, some (.int (i : Nat))])
          ⟨y, rfl, by simp, Nat.zero_le _, rfl⟩ ?_ ?_⟩
        · rintro i σ H2 hi ⟨y, rfl, et, hi2, rfl⟩
          have hi3 : i < most a b - f := by omega
          walk_at "g"
          have ei : ((a.length : Int) - 1 - (0 + (i : Int))).toNat = a.length - 1 - i := by omega
          have ej : ((b.length : Int) - 1 - (0 + (i : Int))).toNat = b.length - 1 - i := by omega
          rw [ei, ej]
          refine Gx.iteDn (fun h => ?_) (fun h => ?_)
          · walk_at "g"
            exact ⟨i, _, rfl, LS.stop et hi2 (.inr fun e => h (by rw [e])), rfl⟩
          · walk_at "g"
            exact ⟨_, rfl, drop_next et (by omega) (by omega) (by simpa using h), by omega, rfl⟩
        · rintro σ H2 ⟨y, rfl, et, hi2, rfl⟩
          have en : ((most a b : Nat) - (f : Int)).toNat = most a b - f := by omega
          rw [en] at et ⊢
          walk_at "g"
          exact ⟨most a b - f, y, rfl, LS.stop et (Nat.le_refl _) (.inl rfl), rfl⟩
      · rintro σ H2 ⟨z, y, rfl, ls, rfl⟩
        have hf := lp.1
        have hz := ls.1
        walk_at "g"
        intro x dx nx ndx ne
        refine ⟨x, dx, _, _, _, rfl, upd_same, fun H' e1 e2 => ⟨rfl, ?_⟩⟩
        walk_at "g"
        refine q H' x f z (Gx.made_same nx ndx e2) lp ls ⟨dx, ?_⟩
        rw [e1]
        unfold mid
        rw [show ((b.length : Int) - (z : Int)).toNat = b.length - z by omega, Int.toNat_natCast]
end
end K44
namespace K44
open PySem PySem.Spec PyProof.Rows L2
local macro_rules | `(tactic| walk_at "con") => `(tactic| first | with_reducible refine Gx.conE K44.ks0 ?_ | with_reducible refine Gx.conE K44.ks1 ?_ | with_reducible refine Gx.conE K44.ks2 ?_)
section
variable {P : Program} {w : World} {K : PySem.W.Frag} {mg : Str → Option Value} {base : Heap}
def sp_sf : Sp := fun vs H Q _ => ∃ (s e : Int) (n l : List Nat), vs = [.int s, .int e, .str (Gx.mkS n), .str (Gx.mkS l)] ∧ n.length ≤ 1000 ∧ l.length ≤ 1000 ∧ ∀ H', Same H H' → Q (.bl true) H'
theorem G__law_splice_fits (T : Txt K mg) : FnOk P w K mg base CX0 7 T.f__law_splice_fits T.fd__law_splice_fits ["start", "end", "new", "text"] sp_sf := by
  have G_Splice_init := G_Splice_init (P := P) (w := w) (base := base) T
  have G_Splice_fits := G_Splice_fits (P := P) (w := w) (base := base) T
  have G_Splice_call := G_Splice_call (P := P) (w := w) (base := base) T
  have G_Splice_back := G_Splice_back (P := P) (w := w) (base := base) T
  have G__law_is := G__law_is (P := P) (w := w) (base := base) T
  have G__law_says := G__law_says (P := P) (w := w) (base := base) T
  have G__law_call_raises := G__law_call_raises (P := P) (w := w) (base := base) T
  have G__law_back_raises := G__law_back_raises (P := P) (w := w) (base := base) T
  refine T.F__law_splice_fits.ok sc__law_splice_fits (fun vs H Q E h => ?_) (fun cdv A outer s H vs Q E hr h => ?_)
  · obtain ⟨s, e, n, l, rfl, _⟩ := h
    rfl
  · obtain ⟨s, e, n, l, rfl, hn, hl, q⟩ := h
    refine ⟨_, ((pss_cons (ps_set (i := 4) sc__law_splice_fits.nd rfl (Or.inl rfl) (pe_make T.M_Splice G_Splice_init (hr.mono (by decide)) (by rfl) T.g_Splice T.b_Splice_init .nil pass0 (pa_cons (pv 0) (pa_cons (pv 1) (pa_cons (pv 2) pa_nil)))))
  (pss_cons (ps_set (i := 5) sc__law_splice_fits.nd rfl (Or.inl rfl) (pe_and (pe_cmpR op_le pe_int (pv 0) (nomark _)) (pe_and (pe_cmpR op_le (pv 0) (pv 1) (nomark _)) (pe_one (pe_cmpR op_le (pv 1) (pe_callB Gx.cr_lenS (by rfl) T.z_len bt_len (pa_cons (pv 3) pa_nil)) (nomark _))))))
  (pss_cons (ps_if (PW.pt (pw_or (pt_not (pt_val (pe_call G__law_is (hr.mono (by decide)) (by rfl) T.g__law_is T.F__law_is.kp T.b__law_is .nil pass0 (pa_cons (pv 4) (pa_cons (pv 0) (pa_cons (pv 1) (pa_cons (pv 2) pa_nil))))))) (pw_or1 (pt_not (pt_val (pe_call G__law_says (hr.mono (by decide)) (by rfl) T.g__law_says T.F__law_says.kp T.b__law_says .nil pass0 (pa_cons (pe_meth (pv 4) T.c_Splice T.m_Splice_fits G_Splice_fits (hr.mono (by decide)) T.b_Splice_fits .nil pass0 (pa_cons (pv 3) pa_nil)) (pa_cons (pv 5) pa_nil))))))))
  (pss_one (ps_ret pe_bl))
  pss_nil)
  (pss_cons (ps_if (pt_not (pt_val (pv 5)))
  (pss_one (ps_ret (pe_and (pe_call G__law_call_raises (hr.mono (by decide)) (by rfl) T.g__law_call_raises T.F__law_call_raises.kp T.b__law_call_raises .nil pass0 (pa_cons (pv 4) (pa_cons (pv 3) pa_nil))) (pe_one (pe_call G__law_back_raises (hr.mono (by decide)) (by rfl) T.g__law_back_raises T.F__law_back_raises.kp T.b__law_back_raises .nil pass0 (pa_cons (pv 4) (pa_cons (pv 3) pa_nil)))))))
  pss_nil)
  (pss_cons (ps_set (i := 6) sc__law_splice_fits.nd rfl (Or.inl rfl) (pe_op Gx.op_addS (pe_op Gx.op_addS (pe_slice sl_str (pv 3) po_none (po_some (pv 0))) (pv 2)) (pe_slice sl_str (pv 3) (po_some (pv 1)) po_none)))
  (pss_cons (ps_set (i := 7) sc__law_splice_fits.nd rfl (Or.inl rfl) (pe_meth (pv 4) T.c_Splice T.m_Splice_back G_Splice_back (hr.mono (by decide)) T.b_Splice_back .nil passL (pa_cons (pv 3) pa_nil)))
  (pss_cons (ps_if (PW.pt (pw_or (pt_cmpR op_ne (Gx.pe_callOS (E := fun _ => E0) (pv 4) ⟨T.m_Splice_call.at_, T.m_Splice_call.fn, T.fi_Splice⟩ G_Splice_call (hr.mono (by decide)) T.b_Splice_call Gx.passLS (pa_cons (pv 3) pa_nil)) (pv 6) (nomark _)) (pw_or1 (pt_not (pt_val (pe_call G__law_is (hr.mono (by decide)) (by rfl) T.g__law_is T.F__law_is.kp T.b__law_is .nil pass0 (pa_cons (pv 7) (pa_cons (pv 0) (pa_cons (pe_op op_add (pv 0) (pe_callB Gx.cr_lenS (by rfl) T.z_len bt_len (pa_cons (pv 2) pa_nil))) (pa_cons (pe_slice sl_str (pv 3) (po_some (pv 0)) (po_some (pv 1))) pa_nil))))))))))
  (pss_one (ps_ret pe_bl))
  pss_nil)
  (pss_one (ps_ret (pe_and (pe_cmpR op_eq (Gx.pe_callOS (E := fun _ => E0) (pv 7) ⟨T.m_Splice_call.at_, T.m_Splice_call.fn, T.fi_Splice⟩ G_Splice_call (hr.mono (by decide)) T.b_Splice_call Gx.passLS (pa_cons (pv 6) pa_nil)) (pv 3) (nomark _)) (pe_one (pe_call G__law_is (hr.mono (by decide)) (by rfl) T.g__law_is T.F__law_is.kp T.b__law_is .nil pass0 (pa_cons (pv 4) (pa_cons (pv 0) (pa_cons (pv 1) (pa_cons (pv 2) pa_nil))))))))))))))))), ?_⟩
    rw [st__law_splice_fits]
    try dsimp only [cxOf]
    walk_at "g"
    intro x dx nx ndx ne
    refine ⟨x, dx, _, _, _, rfl, upd_same, fun H1 e1 e2 => ⟨rfl, ?_⟩⟩
    have s1 : Same H H1 := Gx.made_same nx ndx e2
    have sp : SpAt T.a_Splice H1 x s e n := ⟨dx, e1⟩
    clear e2 ne ndx nx
    walk_at "g"
    refine Gx.and3 (p2 := s ≤ e) (p3 := e ≤ (l.length : Int)) (fun _ Q' q' => ?_) (fun _ _ Q' q' => ?_) ?_
    · walk_at "g"
      exact q'
    · walk_at "g"
      exact q'
    rw [show decide (0 ≤ s ∧ s ≤ e ∧ e ≤ (l.length : Int)) = decide (Fits s e l) from rfl]
    walk_at "g"
    refine ⟨x, s, e, n, rfl, sp, by omega, ?_⟩
    walk_at "g"
    refine ⟨x, dx, _, rfl, e1, rfl, ?_⟩
    walk_at "g"
    refine ⟨x, s, e, n, l, rfl, sp, by omega, ?_⟩
    walk_at "g"
    refine ⟨_, _, rfl, ?_⟩
    rw [beq_self_eq_true]
    walk_at "g"
    refine Gx.iteDn (fun hf => ?_) (fun hf => ?_)
    · walk_at "g"
      refine ⟨x, s, e, n, l, rfl, sp, by omega, by omega, hf, ?_⟩
      walk_at "g"
      refine ⟨x, s, e, n, l, rfl, sp, by omega, by omega, hf, ?_⟩
      exact q _ s1
    · obtain ⟨h1, h2, h3⟩ := id hf
      walk_at "g"
      refine ⟨x, dx, _, rfl, e1, rfl, ?_⟩
      walk_at "g"
      refine ⟨x, s, e, n, l, rfl, sp, by omega, by omega, fun _ H2 y s2 sy => ?_, fun z => (z hf).elim⟩
      have sp2 := sp.same s2
      obtain ⟨dx2, hx2⟩ := id sp2
      obtain ⟨dy, hy⟩ := id sy
      have fb : Fits s (s + (n.length : Nat)) (l.take s.toNat ++ n ++ l.drop e.toNat) := by
        refine ⟨h1, by omega, ?_⟩
        simp only [List.length_append, List.length_take, List.length_drop]
        omega
      have undo : (l.take s.toNat ++ n ++ l.drop e.toNat).take s.toNat ++ (l.take e.toNat).drop s.toNat ++ (l.take s.toNat ++ n ++ l.drop e.toNat).drop (s + (n.length : Nat)).toNat = l := by
        have t1 : (l.take s.toNat).length = s.toNat := by rw [List.length_take]; omega
        rw [List.append_assoc (l.take s.toNat) n, List.take_left' t1, ← List.append_assoc (l.take s.toNat) n, List.drop_left' (by rw [List.length_append, t1]; omega)]
        have t2 : l.take s.toNat = (l.take e.toNat).take s.toNat := by rw [List.take_take, Nat.min_eq_left (by omega)]
        rw [t2, List.take_append_drop, List.take_append_drop]
      walk_at "g"
      refine ⟨⟨dx2, _, hx2⟩, x, s, e, n, l, rfl, sp2, by omega, by omega, fun _ => ?_, fun z => (z hf).elim⟩
      walk_at "g"
      rw [decide_eq_true (rfl : l.take s.toNat ++ n ++ l.drop e.toNat = _)]
      walk_at "g"
      refine ⟨y, _, _, _, rfl, sy, by simp only [List.length_take, List.length_drop]; omega, ?_⟩
      walk_at "g"
      refine ⟨⟨dy, _, hy⟩, y, _, _, _, _, rfl, sy, by simp only [List.length_append, List.length_take, List.length_drop]; omega, by simp only [List.length_take, List.length_drop]; omega, fun _ => ?_, fun z => (z fb).elim⟩
      rw [undo]
      walk_at "g"
      rw [decide_eq_true (rfl : l = _)]
      walk_at "g"
      refine ⟨x, s, e, n, rfl, sp2, by omega, ?_⟩
      exact q _ (s1.trans s2)
theorem eqSS (T : Txt K mg) {H : Hp} {Q : VK} {x y : Addr} {s e s2 e2 : Int} {n n2 : List Nat} (hx : SpAt T.a_Splice H x s e n) (hy : SpAt T.a_Splice H y s2 e2 n2) (h : Q (.bl (decide (s = s2 ∧ e = e2 ∧ n = n2))) H) :
    Gx.rEqO T.a_Splice (sp_eq K T.a_Splice) K (.ref x) (.ref y) H Q := by
  obtain ⟨dx, ex⟩ := id hx
  obtain ⟨dy, ey⟩ := id hy
  exact ⟨x, dx, _, .ref T.a_Splice, rfl, ex, tyS T ey, by simp [PySem.W.notFirst], x, .ref y, s, e, n, rfl, hx, .inl ⟨y, s2, e2, n2, rfl, hy, ⟨_, rfl⟩, h⟩⟩
theorem eqSV (T : Txt K mg) {H : Hp} {Q : VK} {x : Addr} {v : V} {t : Value} {s e : Int} {n : List Nat} (hx : SpAt T.a_Splice H x s e n) (ty : TyX K H v t) (kt : PySem.W.kitOne K t (.ref T.a_Splice) = some false) (st : PySem.W.subIn K t (.ref T.a_Splice) = some false) (h : Q (.bl false) H) :
    Gx.rEqO T.a_Splice (sp_eq K T.a_Splice) K (.ref x) v H Q := by
  obtain ⟨dx, ex⟩ := id hx
  exact ⟨x, dx, _, t, rfl, ex, ty, by simp [PySem.W.notFirst, st], x, v, s, e, n, rfl, hx, .inr ⟨t, ty, kt, ⟨_, rfl⟩, h⟩⟩
def sp_eqs : Sp := fun vs H Q _ => ∃ (s e : Int) (n : List Nat), vs = [.int s, .int e, .str (Gx.mkS n)] ∧ n.length ≤ 1000 ∧ ∀ H', Same H H' → Q (.bl true) H'
theorem G__law_equals (T : Txt K mg) : FnOk P w K mg base CX0 7 T.f__law_equals T.fd__law_equals ["start", "end", "new"] sp_eqs := by
  have G_Splice_init := G_Splice_init (P := P) (w := w) (base := base) T
  have G_Splice_eq := G_Splice_eq (P := P) (w := w) (base := base) T
  have G__law_says := G__law_says (P := P) (w := w) (base := base) T
  refine T.F__law_equals.ok sc__law_equals (fun vs H Q E h => ?_) (fun cdv A outer s H vs Q E hr h => ?_)
  · obtain ⟨s, e, n, rfl, _⟩ := h
    rfl
  · obtain ⟨s, e, n, rfl, hn, q⟩ := h
    refine ⟨_, ((pss_cons (ps_set (i := 3) sc__law_equals.nd rfl (Or.inl rfl) (pe_make T.M_Splice G_Splice_init (hr.mono (by decide)) (by rfl) T.g_Splice T.b_Splice_init .nil pass0 (pa_cons (pv 0) (pa_cons (pv 1) (pa_cons (pv 2) pa_nil)))))
  (pss_cons (ps_if (pt_not (pt_val (pe_call G__law_says (hr.mono (by decide)) (by rfl) T.g__law_says T.F__law_says.kp T.b__law_says .nil pass0 (pa_cons (pe_cmpR (Gx.op_eqO T.m_Splice_eq.at_ T.m_Splice_eq.fn G_Splice_eq (hr.mono (by decide)) T.b_Splice_eq) (pv 3) (pe_make T.M_Splice G_Splice_init (hr.mono (by decide)) (by rfl) T.g_Splice T.b_Splice_init .nil pass0 (pa_cons (pv 0) (pa_cons (pv 1) (pa_cons (pe_op Gx.op_addS pe_str (pv 2)) pa_nil)))) (nomark _)) (pa_cons pe_bl pa_nil)))))
  (pss_one (ps_ret pe_bl))
  pss_nil)
  (pss_cons (ps_for PassesOwn.never rfl (pi_list (pe_lst (pa_cons (pe_make T.M_Splice G_Splice_init (hr.mono (by decide)) (by rfl) T.g_Splice T.b_Splice_init .nil pass0 (pa_cons (pe_op op_add (pv 0) pe_int) (pa_cons (pv 1) (pa_cons (pv 2) pa_nil)))) (pa_cons (pe_make T.M_Splice G_Splice_init (hr.mono (by decide)) (by rfl) T.g_Splice T.b_Splice_init .nil pass0 (pa_cons (pv 0) (pa_cons (pe_op op_add (pv 1) pe_int) (pa_cons (pv 2) pa_nil)))) (pa_cons (pe_make T.M_Splice G_Splice_init (hr.mono (by decide)) (by rfl) T.g_Splice T.b_Splice_init .nil pass0 (pa_cons (pv 0) (pa_cons (pv 1) (pa_cons (pe_op Gx.op_addS (pv 2) pe_str) pa_nil)))) pa_nil))))) (pg_name (i := 4) sc__law_equals.nd rfl (Or.inl rfl))
  (pss_one (ps_if (PW.pt (pw_or (pt_not (pt_val (pe_call G__law_says (hr.mono (by decide)) (by rfl) T.g__law_says T.F__law_says.kp T.b__law_says .nil pass0 (pa_cons (pe_cmpR (Gx.op_eqO T.m_Splice_eq.at_ T.m_Splice_eq.fn G_Splice_eq (hr.mono (by decide)) T.b_Splice_eq) (pv 3) (pv 4) (nomark _)) (pa_cons pe_bl pa_nil))))) (pw_or1 (pt_not (pt_val (pe_call G__law_says (hr.mono (by decide)) (by rfl) T.g__law_says T.F__law_says.kp T.b__law_says .nil pass0 (pa_cons (pe_cmpR (Gx.op_eqO T.m_Splice_eq.at_ T.m_Splice_eq.fn G_Splice_eq (hr.mono (by decide)) T.b_Splice_eq) (pv 4) (pv 3) (nomark _)) (pa_cons pe_bl pa_nil))))))))
  (pss_one (ps_ret pe_bl))
  pss_nil)))
  (pss_one (ps_ret (pe_and (pe_call G__law_says (hr.mono (by decide)) (by rfl) T.g__law_says T.F__law_says.kp T.b__law_says .nil pass0 (pa_cons (pe_cmpR (Gx.op_eqO T.m_Splice_eq.at_ T.m_Splice_eq.fn G_Splice_eq (hr.mono (by decide)) T.b_Splice_eq) (pv 3) (pe_tup (pa_cons (pv 0) (pa_cons (pv 1) (pa_cons (pv 2) pa_nil)))) (nomark _)) (pa_cons pe_bl pa_nil))) (pe_one (pe_call G__law_says (hr.mono (by decide)) (by rfl) T.g__law_says T.F__law_says.kp T.b__law_says .nil pass0 (pa_cons (pe_cmpR (Gx.op_eqO T.m_Splice_eq.at_ T.m_Splice_eq.fn G_Splice_eq (hr.mono (by decide)) T.b_Splice_eq) (pv 3) (pv 2) (nomark _)) (pa_cons pe_bl pa_nil))))))))))), ?_⟩
    rw [st__law_equals]
    try dsimp only [cxOf]
    walk_at "g"
    intro x dx nx ndx ne
    refine ⟨x, dx, _, _, _, rfl, upd_same, fun H1 e1 e2 => ⟨rfl, ?_⟩⟩
    have s1 : Same H H1 := Gx.made_same nx ndx e2
    have sp : SpAt T.a_Splice H1 x s e n := ⟨dx, e1⟩
    clear e2 ne ndx nx
    walk_at "g"
    intro y dy ny ndy ney
    rw [List.nil_append]
    refine ⟨y, dy, _, _, _, rfl, upd_same, fun H2 e3 e4 => ⟨rfl, ?_⟩⟩
    have s2 : Same H1 H2 := Gx.made_same ny ndy e4
    have sy : SpAt T.a_Splice H2 y s e n := ⟨dy, e3⟩
    clear e4 ney ndy ny
    have sp2 := sp.same s2
    obtain ⟨dx2, hx2⟩ := id sp2
    refine eqSS T sp2 sy ?_
    rw [decide_eq_true ⟨rfl, rfl, rfl⟩]
    walk_at "g"
    refine ⟨_, _, rfl, ?_⟩
    walk_at "g"
    -- the three others
    intro o1 d1 no1 nd1 ne1
    refine ⟨o1, d1, _, _, _, rfl, upd_same, fun H3 f1 f2 => ⟨rfl, ?_⟩⟩
    have s3 : Same H2 H3 := Gx.made_same no1 nd1 f2
    have so1 : SpAt T.a_Splice H3 o1 (s + 1) e n := ⟨d1, f1⟩
    clear f2 ne1 nd1 no1
    walk_at "g"
    intro o2 d2 no2 nd2 ne2
    refine ⟨o2, d2, _, _, _, rfl, upd_same, fun H4 f3 f4 => ⟨rfl, ?_⟩⟩
    have s4 : Same H3 H4 := Gx.made_same no2 nd2 f4
    have so2 : SpAt T.a_Splice H4 o2 s (e + 1) n := ⟨d2, f3⟩
    clear f4 ne2 nd2 no2
    walk_at "g"
    intro o3 d3 no3 nd3 ne3
    refine ⟨o3, d3, _, _, _, rfl, upd_same, fun H5 f5 f6 => ⟨rfl, ?_⟩⟩
    have s5 : Same H4 H5 := Gx.made_same no3 nd3 f6
    have so3 : SpAt T.a_Splice H5 o3 s e (n ++ [97]) := ⟨d3, f5⟩
    clear f6 ne3 nd3 no3
    walk_at "g"
    refine ⟨Gx.line (by show 3 ≤ 16777216; omega), fun p np => ?_⟩
    have E6 := Gx.ext1 (o := .lst [.ref o1, .ref o2, .ref o3]) np
    generalize upd H5 p (.lst [.ref o1, .ref o2, .ref o3]) = H6 at E6 ⊢
    have s6 : Same H2 H6 := ((s3.trans s4).trans s5).trans E6.same
    have sx := (sp2.same s6)
    have t1 := so1.same ((s4.trans s5).trans E6.same)
    have t2 := so2.same (s5.trans E6.same)
    have t3 := so3.same E6.same
    refine ⟨p, rfl, ⟨_, SqL.of E6.at_⟩, for_list (K := K) (a := p) (xs := [.ref o1, .ref o2, .ref o3]) (fun i σ H7 => ∃ y, H7 = H6 ∧ σ = [some (.int s), some (.int e), some (.str (Gx.mkS n)), some (.ref x), y])
      ⟨none, rfl, rfl⟩ (fun i σ H7 _ ⟨_, e7, _⟩ => by rw [e7]; exact SqL.of E6.at_) ?_ ?_⟩
    · rintro i v σ H7 hi ⟨y', rfl, rfl⟩
      have hv : ∃ (o : Addr) (s2 e2 : Int) (n2 : List Nat), v = .ref o ∧ SpAt T.a_Splice H7 o s2 e2 n2 ∧ ¬ (s = s2 ∧ e = e2 ∧ n = n2) := by
        match i, hi with
        | 0, hi => cases hi; exact ⟨o1, _, _, _, rfl, t1, fun z => by omega⟩
        | 1, hi => cases hi; exact ⟨o2, _, _, _, rfl, t2, fun z => by omega⟩
        | 2, hi => cases hi; exact ⟨o3, _, _, _, rfl, t3, fun z => by simpa using z.2.2⟩
      obtain ⟨o, s2, e2, n2, rfl, so, nq⟩ := hv
      walk_at "g"
      refine eqSS T sx so ?_
      rw [decide_eq_false nq]
      walk_at "g"
      refine ⟨_, _, rfl, ?_⟩
      walk_at "g"
      refine eqSS T so sx ?_
      rw [decide_eq_false fun z => nq ⟨z.1.symm, z.2.1.symm, z.2.2.symm⟩]
      walk_at "g"
      refine ⟨_, _, rfl, ?_⟩
      walk_at "g"
      exact ⟨_, rfl, rfl⟩
    · rintro σ H7 ⟨y', rfl, rfl⟩
      walk_at "g"
      refine ⟨Gx.line (by show 3 ≤ 16777216; omega), fun t nt => ?_⟩
      have E8 := Gx.ext1 (o := .tup [.int s, .int e, .str (Gx.mkS n)]) nt
      generalize upd H7 t (.tup [.int s, .int e, .str (Gx.mkS n)]) = H8 at E8 ⊢
      refine eqSV T (sx.same E8.same) (.base (.tup E8.at_)) T.ks_tup T.ss_tup ?_
      walk_at "g"
      refine ⟨_, _, rfl, ?_⟩
      walk_at "g"
      refine eqSV T (sx.same E8.same) (.base (.str _)) T.ks_str T.ss_str ?_
      walk_at "g"
      refine ⟨_, _, rfl, ?_⟩
      exact q _ ((s1.trans s2).trans (s6.trans E8.same))
def sp_bf : Sp := fun vs H Q _ => ∃ (a b : List Nat), vs = [.str (Gx.mkS a), .str (Gx.mkS b)] ∧ a.length ≤ 1000 ∧ b.length ≤ 1000 ∧ ∀ H', Same H H' → Q (.bl true) H'
theorem G__law_between_fits (T : Txt K mg) : FnOk P w K mg base CX0 7 T.f__law_between_fits T.fd__law_between_fits ["old", "new"] sp_bf := by
  have G_between := G_between (P := P) (w := w) (base := base) T
  have G__law_is := G__law_is (P := P) (w := w) (base := base) T
  have G_Splice_call := G_Splice_call (P := P) (w := w) (base := base) T
  refine T.F__law_between_fits.ok sc__law_between_fits (fun vs H Q E h => ?_) (fun cdv A outer s H vs Q E hr h => ?_)
  · obtain ⟨a, b, rfl, _⟩ := h
    rfl
  · obtain ⟨a, b, rfl, ha, hb, q⟩ := h
    refine ⟨_, ((pss_cons (ps_set (i := 2) sc__law_between_fits.nd rfl (Or.inl rfl) (pe_callB (Gx.cr_min2 rfl) (by rfl) T.z_min bt_min (pa_cons (pe_callB Gx.cr_lenS (by rfl) T.z_len bt_len (pa_cons (pv 0) pa_nil)) (pa_cons (pe_callB Gx.cr_lenS (by rfl) T.z_len bt_len (pa_cons (pv 1) pa_nil)) pa_nil))))
  (pss_cons (ps_set (i := 3) sc__law_between_fits.nd rfl (Or.inl rfl) pe_int)
  (pss_cons (ps_for PassesOwn.never rfl (pi_range1 rfl T.z_range (pa_cons (pv 2) pa_nil)) (pg_name (i := 4) sc__law_between_fits.nd rfl (Or.inl rfl))
  (pss_one (ps_if (pt_cmpR op_eq (pe_slice sl_str (pv 0) po_none (po_some (pe_op op_add (pv 4) pe_int))) (pe_slice sl_str (pv 1) po_none (po_some (pe_op op_add (pv 4) pe_int))) (nomark _))
  (pss_one (ps_set (i := 3) sc__law_between_fits.nd rfl (Or.inl rfl) (pe_op op_add (pv 4) pe_int)))
  pss_nil)))
  (pss_cons (ps_set (i := 5) sc__law_between_fits.nd rfl (Or.inl rfl) pe_int)
  (pss_cons (ps_for PassesOwn.never rfl (pi_range1 rfl T.z_range (pa_cons (pe_op op_sub (pv 2) (pv 3)) pa_nil)) (pg_name (i := 4) sc__law_between_fits.nd rfl (Or.inl rfl))
  (pss_one (ps_if (pt_cmpR op_eq (pe_slice sl_str (pv 0) (po_some (pe_op op_sub (pe_op op_sub (pe_callB Gx.cr_lenS (by rfl) T.z_len bt_len (pa_cons (pv 0) pa_nil)) (pv 4)) pe_int)) po_none) (pe_slice sl_str (pv 1) (po_some (pe_op op_sub (pe_op op_sub (pe_callB Gx.cr_lenS (by rfl) T.z_len bt_len (pa_cons (pv 1) pa_nil)) (pv 4)) pe_int)) po_none) (nomark _))
  (pss_one (ps_set (i := 5) sc__law_between_fits.nd rfl (Or.inl rfl) (pe_op op_add (pv 4) pe_int)))
  pss_nil)))
  (pss_cons (ps_set (i := 6) sc__law_between_fits.nd rfl (Or.inl rfl) (pe_call G_between (hr.mono (by decide)) (by rfl) T.g_between T.F_between.kp T.b_between .nil pass0 (pa_cons (pv 0) (pa_cons (pv 1) pa_nil))))
  (pss_cons (ps_if (pt_not (pt_val (pe_call G__law_is (hr.mono (by decide)) (by rfl) T.g__law_is T.F__law_is.kp T.b__law_is .nil pass0 (pa_cons (pv 6) (pa_cons (pv 3) (pa_cons (pe_op op_sub (pe_callB Gx.cr_lenS (by rfl) T.z_len bt_len (pa_cons (pv 0) pa_nil)) (pv 5)) (pa_cons (pe_slice sl_str (pv 1) (po_some (pv 3)) (po_some (pe_op op_sub (pe_callB Gx.cr_lenS (by rfl) T.z_len bt_len (pa_cons (pv 1) pa_nil)) (pv 5)))) pa_nil)))))))
  (pss_one (ps_ret pe_bl))
  pss_nil)
  (pss_one (ps_ret (pe_cmpR op_eq (Gx.pe_callOS (E := fun _ => E0) (pv 6) ⟨T.m_Splice_call.at_, T.m_Splice_call.fn, T.fi_Splice⟩ G_Splice_call (hr.mono (by decide)) T.b_Splice_call Gx.passLS (pa_cons (pv 0) pa_nil)) (pv 1) (nomark _)))))))))))), ?_⟩
    rw [st__law_between_fits]
    try dsimp only [cxOf]
    walk_at "g"
    have hm : (if (b.length : Int) < a.length then (b.length : Int) else a.length) = (most a b : Nat) := by
      unfold most
      split <;> omega
    rw [hm]
    have hm1 : most a b ≤ a.length := Nat.min_le_left _ _
    have hm2 : most a b ≤ b.length := Nat.min_le_right _ _
    refine ⟨_, rfl, by omega, by omega, for_range (fun i σ H1 => ∃ (f : Nat) (y : Option V), H1 = H ∧ f ≤ i ∧ a.take f = b.take f ∧ (∀ k, k ≤ i → a.take k = b.take k → k ≤ f) ∧
        σ = [some (.str (Gx.mkS a)), some (.str (Gx.mkS b)), some (.int (most a b : Nat)), some (.int (f : Nat)), y, none, none])
      ⟨0, none, rfl, Nat.le_refl _, by simp, fun k hk _ => hk, rfl⟩ ?_ ?_⟩
    · rintro i σ H1 hi ⟨f, y, rfl, hf, ef, mf, rfl⟩
      walk_at "g"
      have ei : (0 + (i : Int) + 1).toNat = i + 1 := by omega
      rw [ei]
      refine Gx.iteD (fun h => ?_) (fun h => ?_)
      · walk_at "g"
        exact ⟨i + 1, _, rfl, Nat.le_refl _, h, fun k hk _ => hk, by rw [show (0 + (i : Int) + 1) = ((i + 1 : Nat) : Int) by omega]⟩
      · walk_at "g"
        refine ⟨f, _, rfl, by omega, ef, fun k hk e => ?_, rfl⟩
        by_cases hk2 : k = i + 1
        · rw [hk2] at e
          exact (h e).elim
        · exact mf k (by omega) e
    · rintro σ H1 ⟨f, y, rfl, hf, ef, mf, rfl⟩
      rw [Int.toNat_natCast] at hf mf
      have lp : LP a b f := ⟨hf, ef, mf⟩
      walk_at "g"
      refine ⟨_, rfl, by omega, by omega, for_range (fun i σ H2 => ∃ (z : Nat) (y : Option V), H2 = H1 ∧ z ≤ i ∧ a.drop (a.length - z) = b.drop (b.length - z) ∧ (∀ k, k ≤ i → a.drop (a.length - k) = b.drop (b.length - k) → k ≤ z) ∧
          σ = [some (.str (Gx.mkS a)), some (.str (Gx.mkS b)), some (.int (most a b : Nat)), some (.int (f : Nat)), y, some (.int (z : Nat)), none])
        ⟨0, y, rfl, Nat.le_refl _, by simp, fun k hk _ => hk, rfl⟩ ?_ ?_⟩
      · rintro i σ H2 hi ⟨z, y, rfl, hz, ez, mz, rfl⟩
        have hi2 : i < most a b - f := by omega
        walk_at "g"
        have ei : ((a.length : Int) - (0 + (i : Int)) - 1).toNat = a.length - (i + 1) := by omega
        have ej : ((b.length : Int) - (0 + (i : Int)) - 1).toNat = b.length - (i + 1) := by omega
        rw [ei, ej]
        refine Gx.iteD (fun h => ?_) (fun h => ?_)
        · walk_at "g"
          exact ⟨i + 1, _, rfl, Nat.le_refl _, h, fun k hk _ => hk, by rw [show (0 + (i : Int) + 1) = ((i + 1 : Nat) : Int) by omega]⟩
        · walk_at "g"
          refine ⟨z, _, rfl, by omega, ez, fun k hk e => ?_, rfl⟩
          by_cases hk2 : k = i + 1
          · rw [hk2] at e
            exact (h e).elim
          · exact mz k (by omega) e
      · rintro σ H2 ⟨z, y, rfl, hz, ez, mz, rfl⟩
        have en : ((most a b : Nat) - (f : Int)).toNat = most a b - f := by omega
        rw [en] at hz mz
        have ls : LS a b f z := ⟨hz, ez, mz⟩
        walk_at "g"
        refine ⟨a, b, rfl, ha, hb, fun H3 p f' z' s3 lp' ls' sp => ?_⟩
        obtain rfl := lp.eq lp'
        obtain rfl := ls.eq ls'
        have sl : (mid b f z).length ≤ 1000 := by unfold mid; simp only [List.length_drop, List.length_take]; omega
        obtain ⟨dp, hp⟩ := id sp
        walk_at "g"
        have em : (b.take ((b.length : Int) - (z : Int)).toNat).drop (f : Int).toNat = mid b f z := by
          unfold mid
          rw [show ((b.length : Int) - (z : Int)).toNat = b.length - z by omega, Int.toNat_natCast]
        rw [em]
        refine ⟨p, _, _, _, rfl, sp, by omega, ?_⟩
        walk_at "g"
        have ft : Fits (f : Int) ((a.length : Int) - (z : Nat)) a := ⟨by omega, by omega, by omega⟩
        refine ⟨⟨dp, _, hp⟩, p, _, _, _, a, rfl, sp, by omega, by omega, fun _ => ?_, fun z => (z ft).elim⟩
        walk_at "g"
        rw [show ((a.length : Int) - (z : Nat)).toNat = a.length - z by omega, Int.toNat_natCast, joined lp ls, decide_eq_true (rfl : b = b)]
        exact q H3 s3
end
end K44
namespace K44
open PySem PySem.Spec PyProof.Rows L2
local macro_rules | `(tactic| walk_at "con") => `(tactic| first | with_reducible refine Gx.conE K44.ks0 ?_ | with_reducible refine Gx.conE K44.ks1 ?_ | with_reducible refine Gx.conE K44.ks2 ?_)
section
variable {P : Program} {w : World} {K : PySem.W.Frag} {mg : Str → Option Value} {base : Heap}
def spLaw (K : PySem.W.Frag) : Sp := fun vs H Q _ => ∃ (a : Addr) (ns : List Int), vs = [.ref a] ∧ SqL K H a (ns.map V.int) ∧ ns.length ≤ 63 ∧ ∀ H', Q (.bl true) H'
theorem ok_law (T : Txt K mg) : FnOk P w K mg base CX0 9 T.f_law T.fd_law ["script"] (spLaw K) := by
  have G__law_stream := G__law_stream (P := P) (w := w) (base := base) T
  have G__law_pick := G__law_pick (P := P) (w := w) (base := base) T
  have G__law_wide := G__law_wide (P := P) (w := w) (base := base) T
  have G__law_text := G__law_text (P := P) (w := w) (base := base) T
  have G__law_splice_fits := G__law_splice_fits (P := P) (w := w) (base := base) T
  have G__law_equals := G__law_equals (P := P) (w := w) (base := base) T
  have G__law_between_fits := G__law_between_fits (P := P) (w := w) (base := base) T
  refine T.F_law.ok sc_law (fun vs H Q E h => ?_) (fun cdv A outer s H vs Q E hr h => ?_)
  · obtain ⟨a, ns, rfl, _⟩ := h
    rfl
  · obtain ⟨a, ns, rfl, hS, hlen, q⟩ := h
    refine ⟨_, ((pss_cons (ps_set (i := 1) sc_law.nd rfl (Or.inl rfl) (pe_call G__law_stream (hr.mono (by decide)) (by rfl) T.g__law_stream T.F__law_stream.kp T.b__law_stream .nil pass0 (pa_cons (pv 0) (pa_cons pe_int pa_nil))))
  (pss_cons (ps_set (i := 2) sc_law.nd rfl (Or.inl rfl) (pe_call G__law_pick (hr.mono (by decide)) (by rfl) T.g__law_pick T.F__law_pick.kp T.b__law_pick .nil pass0 (pa_cons (pv 1) (pa_cons pe_int (pa_cons pe_int pa_nil)))))
  (C8.pss_cut (ps_if (pt_cmpR op_eq (pe_call G__law_pick (hr.mono (by decide)) (by rfl) T.g__law_pick T.F__law_pick.kp T.b__law_pick .nil pass0 (pa_cons (pv 1) (pa_cons pe_int (pa_cons pe_int pa_nil)))) pe_int (nomark _))
  (pss_one (ps_set (i := 2) sc_law.nd rfl (Or.inl rfl) (pe_call G__law_pick (hr.mono (by decide)) (by rfl) T.g__law_pick T.F__law_pick.kp T.b__law_pick .nil pass0 (pa_cons (pv 1) (pa_cons pe_int (pa_cons pe_int pa_nil))))))
  pss_nil)
  (pss_cons (ps_set (i := 3) sc_law.nd rfl (Or.inl rfl) (pe_call G__law_text (hr.mono (by decide)) (by rfl) T.g__law_text T.F__law_text.kp T.b__law_text .nil pass0 (pa_cons (pv 1) (pa_cons pe_int (pa_cons (pv 2) pa_nil)))))
  (pss_cons (ps_set (i := 4) sc_law.nd rfl (Or.inl rfl) (pe_op op_sub (pe_call G__law_wide (hr.mono (by decide)) (by rfl) T.g__law_wide T.F__law_wide.kp T.b__law_wide .nil pass0 (pa_cons (pv 1) (pa_cons pe_int (pa_cons (pe_op op_add (pv 2) pe_int) pa_nil)))) pe_int))
  (pss_cons (ps_set (i := 5) sc_law.nd rfl (Or.inl rfl) (pe_op op_sub (pe_call G__law_wide (hr.mono (by decide)) (by rfl) T.g__law_wide T.F__law_wide.kp T.b__law_wide .nil pass0 (pa_cons (pv 1) (pa_cons pe_int (pa_cons (pe_op op_add (pv 2) pe_int) pa_nil)))) pe_int))
  (C8.pss_cut (ps_if (pt_cmpR op_eq (pe_call G__law_pick (hr.mono (by decide)) (by rfl) T.g__law_pick T.F__law_pick.kp T.b__law_pick .nil pass0 (pa_cons (pv 1) (pa_cons pe_int (pa_cons pe_int pa_nil)))) pe_int (nomark _))
  (pss_cons (ps_set (i := 4) sc_law.nd rfl (Or.inl rfl) (pe_call G__law_wide (hr.mono (by decide)) (by rfl) T.g__law_wide T.F__law_wide.kp T.b__law_wide .nil pass0 (pa_cons (pv 1) (pa_cons pe_int (pa_cons (pe_op op_add (pv 2) pe_int) pa_nil)))))
  (pss_one (ps_set (i := 5) sc_law.nd rfl (Or.inl rfl) (pe_op op_add (pv 4) (pe_call G__law_wide (hr.mono (by decide)) (by rfl) T.g__law_wide T.F__law_wide.kp T.b__law_wide .nil pass0 (pa_cons (pv 1) (pa_cons pe_int (pa_cons (pe_op op_sub (pe_op op_add (pv 2) pe_int) (pv 4)) pa_nil))))))))
  pss_nil)
  (pss_cons (ps_set (i := 6) sc_law.nd rfl (Or.inl rfl) (pe_call G__law_text (hr.mono (by decide)) (by rfl) T.g__law_text T.F__law_text.kp T.b__law_text .nil pass0 (pa_cons (pv 1) (pa_cons pe_int (pa_cons (pe_call G__law_pick (hr.mono (by decide)) (by rfl) T.g__law_pick T.F__law_pick.kp T.b__law_pick .nil pass0 (pa_cons (pv 1) (pa_cons pe_int (pa_cons pe_int pa_nil)))) pa_nil)))))
  (pss_cons (ps_if (PW.pt (pw_or (pt_not (pt_val (pe_call G__law_splice_fits (hr.mono (by decide)) (by rfl) T.g__law_splice_fits T.F__law_splice_fits.kp T.b__law_splice_fits .nil pass0 (pa_cons (pv 4) (pa_cons (pv 5) (pa_cons (pv 6) (pa_cons (pv 3) pa_nil))))))) (pw_or1 (pt_not (pt_val (pe_call G__law_equals (hr.mono (by decide)) (by rfl) T.g__law_equals T.F__law_equals.kp T.b__law_equals .nil pass0 (pa_cons (pv 4) (pa_cons (pv 5) (pa_cons (pv 6) pa_nil)))))))))
  (pss_one (ps_ret pe_bl))
  pss_nil)
  (pss_cons (ps_set (i := 7) sc_law.nd rfl (Or.inl rfl) (pe_call G__law_wide (hr.mono (by decide)) (by rfl) T.g__law_wide T.F__law_wide.kp T.b__law_wide .nil pass0 (pa_cons (pv 1) (pa_cons pe_int (pa_cons (pe_op op_add (pv 2) pe_int) pa_nil)))))
  (pss_cons (ps_set (i := 8) sc_law.nd rfl (Or.inl rfl) (pe_op op_add (pv 7) (pe_call G__law_wide (hr.mono (by decide)) (by rfl) T.g__law_wide T.F__law_wide.kp T.b__law_wide .nil pass0 (pa_cons (pv 1) (pa_cons pe_int (pa_cons (pe_op op_sub (pe_op op_add (pv 2) pe_int) (pv 7)) pa_nil))))))
  (pss_cons (ps_set (i := 9) sc_law.nd rfl (Or.inl rfl) (pe_op Gx.op_addS (pe_op Gx.op_addS (pe_slice sl_str (pv 3) po_none (po_some (pv 7))) (pe_call G__law_text (hr.mono (by decide)) (by rfl) T.g__law_text T.F__law_text.kp T.b__law_text .nil pass0 (pa_cons (pv 1) (pa_cons pe_int (pa_cons (pe_call G__law_pick (hr.mono (by decide)) (by rfl) T.g__law_pick T.F__law_pick.kp T.b__law_pick .nil pass0 (pa_cons (pv 1) (pa_cons pe_int (pa_cons pe_int pa_nil)))) pa_nil))))) (pe_slice sl_str (pv 3) (po_some (pv 8)) po_none)))
  (C8.pss_cut (ps_if (pt_cmpR op_eq (pe_call G__law_pick (hr.mono (by decide)) (by rfl) T.g__law_pick T.F__law_pick.kp T.b__law_pick .nil pass0 (pa_cons (pv 1) (pa_cons pe_int (pa_cons pe_int pa_nil)))) pe_int (nomark _))
  (pss_one (ps_set (i := 9) sc_law.nd rfl (Or.inl rfl) (pv 3)))
  pss_nil)
  (pss_one (ps_ret (pe_and (pe_call G__law_between_fits (hr.mono (by decide)) (by rfl) T.g__law_between_fits T.F__law_between_fits.kp T.b__law_between_fits .nil pass0 (pa_cons (pv 3) (pa_cons (pv 9) pa_nil))) (pe_and (pe_call G__law_between_fits (hr.mono (by decide)) (by rfl) T.g__law_between_fits T.F__law_between_fits.kp T.b__law_between_fits .nil pass0 (pa_cons (pv 9) (pa_cons (pv 3) pa_nil))) (pe_one (pe_call G__law_between_fits (hr.mono (by decide)) (by rfl) T.g__law_between_fits T.F__law_between_fits.kp T.b__law_between_fits .nil pass0 (pa_cons (pv 3) (pa_cons (pv 6) pa_nil)))))))))))))))))))))), ?_⟩
    rw [st_law]
    try dsimp only [cxOf]
    walk_at "g"
    refine ⟨a, ns, _, rfl, hS, hlen, by omega, by omega, fun H1 p xs s1 np e1 hx dx => ?_⟩
    clear hS s1 np
    have hX : SqL K H1 p (xs.map V.int) := SqL.of e1
    have hl : 0 < xs.length := by omega
    walk_at "g"
    refine ⟨p, xs, _, _, rfl, hX, hl, by omega, ?_⟩
    have z0 := pick_0 xs 0 (m := 13) (by omega)
    have z1 := pick_lt xs 0 (m := 13) (by omega)
    walk_at "g"
    refine ⟨fun σ H2 => ∃ size : Int, H2 = H1 ∧ 0 ≤ size ∧ size ≤ 54 ∧ σ = [some (.ref a), some (.ref p), some (.int size), none, none, none, none, none, none, none], ?_, ?_⟩
    · walk_at "g"
      refine ⟨p, xs, _, _, rfl, hX, hl, by omega, ?_⟩
      walk_at "g"
      refine Gx.iteD (fun h => ?_) (fun h => ?_)
      · walk_at "g"
        refine ⟨p, xs, _, _, rfl, hX, hl, by omega, ?_⟩
        have y0 := pick_0 xs 2 (m := 55) (by omega)
        have y1 := pick_lt xs 2 (m := 55) (by omega)
        walk_at "g"
        exact ⟨_, rfl, by omega, by omega, rfl⟩
      · walk_at "g"
        exact ⟨_, rfl, by omega, by omega, rfl⟩
    · rintro σ H2 ⟨size, rfl, b0, b1, rfl⟩
      walk_at "g"
      refine ⟨p, xs, _, _, rfl, hX, hl, by omega, by omega, fun H3 s3 => ?_⟩
      have hX3 : SqL K H3 p (xs.map V.int) := s3.seq hX
      have tl := txtL_len xs 20 size.toNat
      generalize txtL xs 20 size.toNat = text at tl ⊢
      walk_at "g"
      refine ⟨p, xs, _, _, rfl, hX3, hl, by omega, ?_⟩
      walk_at "g"
      refine ⟨p, xs, _, _, rfl, hX3, hl, by omega, ?_⟩
      walk_at "g"
      refine ⟨fun σ H4 => ∃ st en : Int, H4 = H3 ∧ σ = [some (.ref a), some (.ref p), some (.int size), some (.str (Gx.mkS text)), some (.int st), some (.int en), none, none, none, none], ?_, ?_⟩
      · walk_at "g"
        refine ⟨p, xs, _, _, rfl, hX3, hl, by omega, ?_⟩
        walk_at "g"
        refine Gx.iteD (fun h => ?_) (fun h => ?_)
        · walk_at "g"
          refine ⟨p, xs, _, _, rfl, hX3, hl, by omega, ?_⟩
          have y0 := wide_0 xs 3 (m := size + 1) (by omega)
          have y1 := wide_lt xs 3 (m := size + 1) (by omega)
          walk_at "g"
          refine ⟨p, xs, _, _, rfl, hX3, hl, by omega, ?_⟩
          walk_at "g"
          exact ⟨_, _, rfl, rfl⟩
        · walk_at "g"
          exact ⟨_, _, rfl, rfl⟩
      · rintro σ H4 ⟨st, en, rfl, rfl⟩
        walk_at "g"
        refine ⟨p, xs, _, _, rfl, hX3, hl, by omega, ?_⟩
        have y0 := pick_0 xs 8 (m := 7) (by omega)
        have y1 := pick_lt xs 8 (m := 7) (by omega)
        walk_at "g"
        refine ⟨p, xs, _, _, rfl, hX3, hl, by omega, by omega, fun H5 s5 => ?_⟩
        have tn := txtL_len xs 80 (pick xs 8 7).toNat
        generalize txtL xs 80 (pick xs 8 7).toNat = new at tn ⊢
        walk_at "g"
        refine ⟨st, en, new, text, rfl, by omega, by omega, fun H6 s6 => ?_⟩
        walk_at "g"
        refine ⟨st, en, new, rfl, by omega, fun H7 s7 => ?_⟩
        have hX7 : SqL K H7 p (xs.map V.int) := s7.seq (s6.seq (s5.seq hX3))
        walk_at "g"
        refine ⟨p, xs, _, _, rfl, hX7, hl, by omega, ?_⟩
        have w0 := wide_0 xs 9 (m := size + 1) (by omega)
        have w1 := wide_lt xs 9 (m := size + 1) (by omega)
        walk_at "g"
        refine ⟨p, xs, _, _, rfl, hX7, hl, by omega, ?_⟩
        have v0 := wide_0 xs 11 (m := size + 1 - wide xs 9 (size + 1)) (by omega)
        have v1 := wide_lt xs 11 (m := size + 1 - wide xs 9 (size + 1)) (by omega)
        walk_at "g"
        refine ⟨p, xs, _, _, rfl, hX7, hl, by omega, ?_⟩
        have u0 := pick_0 xs 13 (m := 5) (by omega)
        have u1 := pick_lt xs 13 (m := 5) (by omega)
        walk_at "g"
        refine ⟨p, xs, _, _, rfl, hX7, hl, by omega, by omega, fun H8 s8 => ?_⟩
        have hX8 : SqL K H8 p (xs.map V.int) := s8.seq hX7
        have tm := txtL_len xs 86 (pick xs 13 5).toNat
        generalize txtL xs 86 (pick xs 13 5).toNat = mid at tm ⊢
        walk_at "g"
        refine ⟨fun σ H9 => ∃ (other : List Nat) (y1 y2 : Option V), H9 = H8 ∧ other.length ≤ 1000 ∧ σ = [some (.ref a), some (.ref p), some (.int size), some (.str (Gx.mkS text)), some (.int st), some (.int en), some (.str (Gx.mkS new)), y1, y2, some (.str (Gx.mkS other))], ?_, ?_⟩
        · walk_at "g"
          refine ⟨p, xs, _, _, rfl, hX8, hl, by omega, ?_⟩
          walk_at "g"
          refine Gx.iteD (fun h => ?_) (fun h => ?_)
          · walk_at "g"
            exact ⟨text, _, _, rfl, by omega, rfl⟩
          · walk_at "g"
            exact ⟨_, _, _, rfl, by simp only [List.length_append, List.length_take, List.length_drop]; omega, rfl⟩
        · rintro σ H9 ⟨other, y1, y2, rfl, ho, rfl⟩
          walk_at "g"
          refine ⟨text, other, rfl, by omega, by omega, fun H10 _ => ?_⟩
          walk_at "g"
          refine ⟨other, text, rfl, by omega, by omega, fun H11 _ => ?_⟩
          walk_at "g"
          refine ⟨text, new, rfl, by omega, by omega, fun H12 _ => ?_⟩
          exact q H12
end
end K44
open PySem PySem.W PyProof.Rows
set_option maxHeartbeats 0 in
theorem PySem.Challenge.cw_textsputback_k44_splices_holds : PySem.Challenge.rw_textsputback_k44_splices.Holds := by
  w_on; o_law; k_head; (case hw => w_witness2)
  k_fill
  refine L2.walk_of (l := PySem.Challenge.rw_textsputback_k44_splices) (n := 63) (k := 9) (x := "script") (CX := fun _ => L2.CX0) (sp := fun w => K44.spLaw _) rfl (by decide) rfl ⟨rfl, by decide, by decide⟩ (fun w h Y => PySem.W.kIn_of Y) ?F (fun _ _ a ns hl _ hS => ⟨a, ns, rfl, hS, hl, fun _ => rfl⟩) (fun _ _ _ _ _ h => h)
  case F =>
    intro w mg fa h KX G hmg
    obtain ⟨T, e⟩ : ∃ T : K44.Txt _ mg, T.f_law = fa := by
      refine' K44.txt_mk KX G ?ga_LensError ?k_LensError ?x_LensError ?bP_LensError ?tP_LensError ?iP_LensError ?ga_BadSplice ?k_BadSplice ?x_BadSplice ?bP_BadSplice ?tP_BadSplice ?iP_BadSplice ?ga_Splice ?k_Splice ?pg_Splice ?hd_Splice ?po_Splice ?sa_Splice ?mk_Splice ?n_Splice_start ?n_Splice_end ?n_Splice_new ?ha_Splice ?hm_Splice ?hn_ ?htk_ ?ga_Splice_init ?i_Splice_init ?l_Splice_init ?cc_Splice_init ?k_Splice_init ?pa_Splice_longer ?pb_Splice_longer ?pc_Splice_longer ?pd_Splice_longer ?l_Splice_longer ?cc_Splice_longer ?k_Splice_longer ?ga_Splice_eq ?i_Splice_eq ?l_Splice_eq ?cc_Splice_eq ?k_Splice_eq ?ga_Splice_fits ?i_Splice_fits ?l_Splice_fits ?cc_Splice_fits ?k_Splice_fits ?ga_Splice_call ?i_Splice_call ?l_Splice_call ?cc_Splice_call ?k_Splice_call ?ga_Splice_back ?i_Splice_back ?l_Splice_back ?cc_Splice_back ?k_Splice_back ?ga_between ?l_between ?cc_between ?k_between ?ga__law_mix ?l__law_mix ?cc__law_mix ?k__law_mix ?ga__law_stream ?l__law_stream ?cc__law_stream ?k__law_stream ?ga__law_pick ?l__law_pick ?cc__law_pick ?k__law_pick ?ga__law_says ?l__law_says ?cc__law_says ?k__law_says ?ga__law_whole ?l__law_whole ?cc__law_whole ?k__law_whole ?ga__law_text ?l__law_text ?cc__law_text ?k__law_text ?ga__law_is ?l__law_is ?cc__law_is ?k__law_is ?ga__law_call_raises ?l__law_call_raises ?cc__law_call_raises ?k__law_call_raises ?ga__law_back_raises ?l__law_back_raises ?cc__law_back_raises ?k__law_back_raises ?ga__law_splice_fits ?l__law_splice_fits ?cc__law_splice_fits ?k__law_splice_fits ?ga__law_equals ?l__law_equals ?cc__law_equals ?k__law_equals ?ga__law_between_fits ?l__law_between_fits ?cc__law_between_fits ?k__law_between_fits ?ga__law_wide ?l__law_wide ?cc__law_wide ?k__law_wide ?ga_law ?l_law ?cc_law ?k_law ?zz_abs ?zz_bool ?zz_int ?zz_isinstance ?zz_len ?zz_min ?zz_range ?zz_str ?ks_str ?ks_tup ?ss_str ?ss_tup ?fi_Splice ?ecg ?eck ?ecd ?eca ?ecm ?em_bl hmg
      (case ga_LensError => first | k_is | rfl | decide +kernel)
      (case k_LensError => first | k_is | rfl | decide +kernel)
      (case x_LensError => k_exc)
      (case bP_LensError => first | k_is | rfl | decide +kernel)
      (case tP_LensError => first | k_is | rfl | decide +kernel)
      (case iP_LensError => first | k_is | rfl | decide +kernel)
      (case ga_BadSplice => first | k_is | rfl | decide +kernel)
      (case k_BadSplice => first | k_is | rfl | decide +kernel)
      (case x_BadSplice => k_exc)
      (case bP_BadSplice => first | k_is | rfl | decide +kernel)
      (case tP_BadSplice => first | k_is | rfl | decide +kernel)
      (case iP_BadSplice => first | k_is | rfl | decide +kernel)
      (case ga_Splice => first | k_is | rfl | decide +kernel)
      (case k_Splice => first | k_is | rfl | decide +kernel)
      (case pg_Splice => first | k_is | rfl | decide +kernel)
      (case hd_Splice => first | k_is | rfl | decide +kernel)
      (case po_Splice => first | k_is | rfl | decide +kernel)
      (case sa_Splice => first | k_is | rfl | decide +kernel)
      (case mk_Splice => first | k_is | rfl | decide +kernel)
      (case n_Splice_start => first | k_is | rfl | decide +kernel)
      (case n_Splice_end => first | k_is | rfl | decide +kernel)
      (case n_Splice_new => first | k_is | rfl | decide +kernel)
      (case ha_Splice => first | k_is | rfl | decide +kernel)
      (case hm_Splice => first | k_is | rfl | decide +kernel)
      (case hn_ => first | k_is | rfl | decide +kernel)
      (case htk_ => first | k_is | rfl | decide +kernel)
      (case ga_Splice_init => first | k_is | rfl | decide +kernel)
      (case i_Splice_init => first | k_is | rfl | decide +kernel)
      (case l_Splice_init => first | k_is | rfl | decide +kernel)
      (case cc_Splice_init => first | k_is | rfl | decide +kernel)
      (case k_Splice_init => first | k_is | rfl | decide +kernel)
      (case pa_Splice_longer => first | k_is | rfl | decide +kernel)
      (case pb_Splice_longer => first | k_is | rfl | decide +kernel)
      (case pc_Splice_longer => first | k_is | rfl | decide +kernel)
      (case pd_Splice_longer => first | k_is | rfl | decide +kernel)
      (case l_Splice_longer => first | k_is | rfl | decide +kernel)
      (case cc_Splice_longer => first | k_is | rfl | decide +kernel)
      (case k_Splice_longer => first | k_is | rfl | decide +kernel)
      (case ga_Splice_eq => first | k_is | rfl | decide +kernel)
      (case i_Splice_eq => first | k_is | rfl | decide +kernel)
      (case l_Splice_eq => first | k_is | rfl | decide +kernel)
      (case cc_Splice_eq => first | k_is | rfl | decide +kernel)
      (case k_Splice_eq => first | k_is | rfl | decide +kernel)
      (case ga_Splice_fits => first | k_is | rfl | decide +kernel)
      (case i_Splice_fits => first | k_is | rfl | decide +kernel)
      (case l_Splice_fits => first | k_is | rfl | decide +kernel)
      (case cc_Splice_fits => first | k_is | rfl | decide +kernel)
      (case k_Splice_fits => first | k_is | rfl | decide +kernel)
      (case ga_Splice_call => first | k_is | rfl | decide +kernel)
      (case i_Splice_call => first | k_is | rfl | decide +kernel)
      (case l_Splice_call => first | k_is | rfl | decide +kernel)
      (case cc_Splice_call => first | k_is | rfl | decide +kernel)
      (case k_Splice_call => first | k_is | rfl | decide +kernel)
      (case ga_Splice_back => first | k_is | rfl | decide +kernel)
      (case i_Splice_back => first | k_is | rfl | decide +kernel)
      (case l_Splice_back => first | k_is | rfl | decide +kernel)
      (case cc_Splice_back => first | k_is | rfl | decide +kernel)
      (case k_Splice_back => first | k_is | rfl | decide +kernel)
      (case ga_between => first | k_is | rfl | decide +kernel)
      (case l_between => first | k_is | rfl | decide +kernel)
      (case cc_between => first | k_is | rfl | decide +kernel)
      (case k_between => first | k_is | rfl | decide +kernel)
      (case ga__law_mix => first | k_is | rfl | decide +kernel)
      (case l__law_mix => first | k_is | rfl | decide +kernel)
      (case cc__law_mix => first | k_is | rfl | decide +kernel)
      (case k__law_mix => first | k_is | rfl | decide +kernel)
      (case ga__law_stream => first | k_is | rfl | decide +kernel)
      (case l__law_stream => first | k_is | rfl | decide +kernel)
      (case cc__law_stream => first | k_is | rfl | decide +kernel)
      (case k__law_stream => first | k_is | rfl | decide +kernel)
      (case ga__law_pick => first | k_is | rfl | decide +kernel)
      (case l__law_pick => first | k_is | rfl | decide +kernel)
      (case cc__law_pick => first | k_is | rfl | decide +kernel)
      (case k__law_pick => first | k_is | rfl | decide +kernel)
      (case ga__law_says => first | k_is | rfl | decide +kernel)
      (case l__law_says => first | k_is | rfl | decide +kernel)
      (case cc__law_says => first | k_is | rfl | decide +kernel)
      (case k__law_says => first | k_is | rfl | decide +kernel)
      (case ga__law_whole => first | k_is | rfl | decide +kernel)
      (case l__law_whole => first | k_is | rfl | decide +kernel)
      (case cc__law_whole => first | k_is | rfl | decide +kernel)
      (case k__law_whole => first | k_is | rfl | decide +kernel)
      (case ga__law_text => first | k_is | rfl | decide +kernel)
      (case l__law_text => first | k_is | rfl | decide +kernel)
      (case cc__law_text => first | k_is | rfl | decide +kernel)
      (case k__law_text => first | k_is | rfl | decide +kernel)
      (case ga__law_is => first | k_is | rfl | decide +kernel)
      (case l__law_is => first | k_is | rfl | decide +kernel)
      (case cc__law_is => first | k_is | rfl | decide +kernel)
      (case k__law_is => first | k_is | rfl | decide +kernel)
      (case ga__law_call_raises => first | k_is | rfl | decide +kernel)
      (case l__law_call_raises => first | k_is | rfl | decide +kernel)
      (case cc__law_call_raises => first | k_is | rfl | decide +kernel)
      (case k__law_call_raises => first | k_is | rfl | decide +kernel)
      (case ga__law_back_raises => first | k_is | rfl | decide +kernel)
      (case l__law_back_raises => first | k_is | rfl | decide +kernel)
      (case cc__law_back_raises => first | k_is | rfl | decide +kernel)
      (case k__law_back_raises => first | k_is | rfl | decide +kernel)
      (case ga__law_splice_fits => first | k_is | rfl | decide +kernel)
      (case l__law_splice_fits => first | k_is | rfl | decide +kernel)
      (case cc__law_splice_fits => first | k_is | rfl | decide +kernel)
      (case k__law_splice_fits => first | k_is | rfl | decide +kernel)
      (case ga__law_equals => first | k_is | rfl | decide +kernel)
      (case l__law_equals => first | k_is | rfl | decide +kernel)
      (case cc__law_equals => first | k_is | rfl | decide +kernel)
      (case k__law_equals => first | k_is | rfl | decide +kernel)
      (case ga__law_between_fits => first | k_is | rfl | decide +kernel)
      (case l__law_between_fits => first | k_is | rfl | decide +kernel)
      (case cc__law_between_fits => first | k_is | rfl | decide +kernel)
      (case k__law_between_fits => first | k_is | rfl | decide +kernel)
      (case ga__law_wide => first | k_is | rfl | decide +kernel)
      (case l__law_wide => first | k_is | rfl | decide +kernel)
      (case cc__law_wide => first | k_is | rfl | decide +kernel)
      (case k__law_wide => first | k_is | rfl | decide +kernel)
      (case ga_law => first | k_is | rfl | decide +kernel)
      (case l_law => first | k_is | rfl | decide +kernel)
      (case cc_law => first | k_is | rfl | decide +kernel)
      (case k_law => first | k_is | rfl | decide +kernel)
      (case zz_abs => first | k_is | rfl | decide +kernel)
      (case zz_bool => first | k_is | rfl | decide +kernel)
      (case zz_int => first | k_is | rfl | decide +kernel)
      (case zz_isinstance => first | k_is | rfl | decide +kernel)
      (case zz_len => first | k_is | rfl | decide +kernel)
      (case zz_min => first | k_is | rfl | decide +kernel)
      (case zz_range => first | k_is | rfl | decide +kernel)
      (case zz_str => first | k_is | rfl | decide +kernel)
      (case ks_str => first | k_is | rfl | decide +kernel)
      (case ks_tup => first | k_is | rfl | decide +kernel)
      (case ss_str => first | k_is | rfl | decide +kernel)
      (case ss_tup => first | k_is | rfl | decide +kernel)
      (case fi_Splice => first | k_is | rfl | decide +kernel)
      (case ecg => first | k_is | rfl | decide +kernel)
      (case eck => first | k_is | rfl | decide +kernel)
      (case ecd => first | k_is | rfl | decide +kernel)
      (case eca => first | k_is | rfl | decide +kernel)
      (case ecm => first | k_is | rfl | decide +kernel)
      (case em_bl => first | k_is | rfl | decide +kernel)
    subst e
    exact ⟨T.fd_law, T.bt_law, fun base _ _ => K44.ok_law T⟩
