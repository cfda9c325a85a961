import PyProof.Rows.All
import Wide.All
import OpenK.AllK
import Wide.FinOn
import KE.KStateDown
import HandS.ForExc
import HandS.ForMost
import HandS.Defaults
import HandS.IsInst
import HandS.Wide
import HandS.Gcd
import HandS.Walk
import HandS.Zip
import HandS.OwnEq
import HandS.ExcInit
import HandS.ExcField
import HandS.TryMany
import HandS.Flow
import HandS.Lambda
import HandS.EndBits
import HandS.EndTab
import HandS.Nested
import HandS.CallRecv
import HandS.Codes
import HandS.TupAny
import HandS.TupMul
import HandS.More
import HandS.Rev
import HandS.Deep
import HandS.ExcIs
import HandS.Head0
import HandS.Head1
import HandS.Head2
import HandS.Head3
import HandS.HeadEnd
import HandS.HeadHook1
import HandS.HeadHook2
import HandS.HeadHook3
import HandS.HeadHook4
import HandS.HeadWalk
import HandS.Strs
import HandS.SetFor
import HandS.TupSets
import HandS.SortInts
import HandS.FStr
import HandS.Star
import KE.GoesMore
import HandS.Conv
import HandS.Style
import PyProof.P3In
import PySem.Challenge.RW_borderflow_k13_deeds_judged
set_option Elab.async false
set_option linter.all false
set_option maxRecDepth 100000
set_option maxHeartbeats 4000000
/-! ## the law is well said (first: later the head has taken the memory) -/
section
open PySem PySem.W PySem.Calls PyProof.Rows
theorem BF.law_top (h : (OpenLaw.row PySem.Challenge.rw_borderflow_k13_deeds_judged).wellSaid = true → (OpenLaw.row PySem.Challenge.rw_borderflow_k13_deeds_judged).Holds) : PySem.Challenge.rw_borderflow_k13_deeds_judged.Holds := by
  w_on; o_law
  exact h ‹_›
end
/-! ## Base layer: heaps that keep what they track, data, the stepper's lemmas -/
namespace BF
open PySem PySem.Spec PyProof.Rows L2

/-- H' keeps what H tracks, but at the addresses of M -/
def Ex (M : List Addr) (H H' : Hp) : Prop := ∀ x o, x ∉ M → H x = some o → H' x = some o
theorem Ex.refl {M : List Addr} (H : Hp) : Ex M H H := fun _ _ _ h => h
theorem Ex.sub {M M' : List Addr} {H H' : Hp} (h : Ex M H H') (s : ∀ x ∈ M, x ∈ M') : Ex M' H H' := fun x o n e => h x o (fun z => n (s x z)) e
theorem Ex.tr {M : List Addr} {H H1 H2 : Hp} (a : Ex M H H1) (b : Ex M H1 H2) : Ex M H H2 := fun x o n e => b x o n (a x o n e)
/-- behind a further step that keeps all but some of M -/
theorem Ex.st {M M' : List Addr} {H H1 H2 : Hp} (b : Ex M' H1 H2) (s : ∀ x ∈ M', x ∈ M) (a : Ex M H H1) : Ex M H H2 := a.tr (b.sub s)
theorem Ex.new {M : List Addr} {H : Hp} {p : Addr} {o : HO} (h : H p = none) : Ex M H (upd H p o) := fun a u _ e => by
  rw [upd_ne (ne_of_none e h)]
  exact e
/-- an object that H does not know may change -/
theorem Ex.mut {M : List Addr} {H H' : Hp} {p : Addr} {o : HO} (h : H p = none) (e : Ex M H H') : Ex M H (upd H' p o) := fun a u n ha => by
  rw [upd_ne (ne_of_none ha h)]
  exact e a u n ha
theorem Ex.wr {M : List Addr} {H H' : Hp} {p : Addr} {o : HO} (h : p ∈ M) (e : Ex M H H') : Ex M H (upd H' p o) := fun a u n ha => by
  have : a ≠ p := fun z => n (z ▸ h)
  rw [upd_ne this]
  exact e a u n ha
theorem Ex.free {M : List Addr} {H H' : Hp} {p : Addr} (e : Ex M H H') (hp : p ∉ M) (h : H' p = none) : H p = none := by
  cases q : H p with
  | none => rfl
  | some o =>
    rw [e p o hp q] at h
    cases h
/-- the addresses of M are taken -/
def Al (M : List Addr) (H : Hp) : Prop := ∀ x ∈ M, ∃ o, H x = some o
theorem Al.nil {H : Hp} : Al [] H := fun _ h => nomatch h
theorem Al.cons {M : List Addr} {H : Hp} {x : Addr} {o : HO} (h : H x = some o) (r : Al M H) : Al (x :: M) H := fun y hy => by
  rcases List.mem_cons.mp hy with e | hy
  · exact ⟨o, by rw [e]; exact h⟩
  · exact r y hy
theorem Al.out {M : List Addr} {H : Hp} {p : Addr} (a : Al M H) (h : H p = none) : p ∉ M := fun z => by
  obtain ⟨o, e⟩ := a p z
  rw [e] at h
  cases h
theorem Al.upd {M : List Addr} {H : Hp} {p : Addr} {o : HO} (a : Al M H) : Al M (upd H p o) := fun x hx => by
  by_cases e : x = p
  · exact ⟨o, by rw [e]; exact upd_same⟩
  · obtain ⟨u, hu⟩ := a x hx
    exact ⟨u, by rw [upd_ne e]; exact hu⟩

theorem rd_ex {M : List Addr} {H H' : Hp} {a : Addr} {u : HO} (e : Ex M H H') (n : a ∉ M) (h : Rd H a u) : Rd H' a u := by
  rcases h with h | ⟨o, h⟩
  · exact Or.inl (e a _ n h)
  · exact Or.inr ⟨o, e a _ n h⟩
theorem sql_ex {M : List Addr} {K : PySem.W.Frag} {H H' : Hp} {a : Addr} {xs : List V} (e : Ex M H H') (n : a ∉ M) (h : SqL K H a xs) : SqL K H' a xs := by
  rcases h with h | h
  · exact Or.inl (rd_ex e n h)
  · exact Or.inr h
theorem sqt_ex {M : List Addr} {K : PySem.W.Frag} {H H' : Hp} {a : Addr} {xs : List V} (e : Ex M H H') (n : a ∉ M) (h : SqT K H a xs) : SqT K H' a xs := by
  rcases h with h | h
  · exact Or.inl (rd_ex e n h)
  · exact Or.inr h
theorem sql_of {K : PySem.W.Frag} {H : Hp} {a : Addr} {xs : List V} (h : H a = some (.lst xs)) : SqL K H a xs := Or.inl (Or.inl h)
theorem sqt_of {K : PySem.W.Frag} {H : Hp} {a : Addr} {xs : List V} (h : H a = some (.tup xs)) : SqT K H a xs := Or.inl (Or.inl h)
theorem at_ex {M : List Addr} {H H' : Hp} {a : Addr} {u : HO} (e : Ex M H H') (n : a ∉ M) (h : H a = some u) : H' a = some u := e a u n h

theorem sz_of {n : Nat} (h : n ≤ 1000000) : n ≤ sizeLine := Nat.le_trans h (by decide)
theorem sz_lt {n : Nat} (h : n < 1000000) : n < sizeLine := Nat.lt_of_lt_of_le h (by decide)

/-! ### the stepper's lemmas: one for each head -/
section
variable {K : PySem.W.Frag} {σ : L2.St} {H : Hp} {ta tb tc te : TE} {t u : TT} {x y z v : V} {r r' : R2} {Q : VK} {QB : Bool → Hp → Prop} {QA : List V → Hp → Prop} {D : Ends} {tu tw : TS} {g : TG}
theorem x_var {i : Nat} (h : σ[i]? = some (some v)) (k : Q v H) : tVar i σ H Q := ⟨v, h, k⟩
theorem x_c (k : Q v H) : tC v σ H Q := k
theorem x_op (k : ta σ H fun x H1 => tb σ H1 fun y H2 => r x y H2 Q) : tOp r ta tb σ H Q := k
theorem x_un {r : V → Hp → VK → Prop} (k : ta σ H fun x H1 => r x H1 Q) : tUn r ta σ H Q := k
theorem x_test (k : ta σ H fun x H' => ∃ b, x = .bl b ∧ QB b H') : tTest ta σ H QB := k
theorem x_B (k : ta σ H fun x H' => ∃ b, x = .bl b ∧ QB b H') : tB ta σ H QB := k
theorem x_bl {b : Bool} (k : QB b H) : ∃ c, V.bl b = .bl c ∧ QB c H := ⟨b, rfl, k⟩
theorem x_and (k : t σ H fun c H1 => if c = true then u σ H1 QB else QB false H1) : tAnd t u σ H QB := k
theorem x_or (k : t σ H fun c H1 => if c = true then QB true H1 else u σ H1 QB) : tOr t u σ H QB := k
theorem x_not (k : t σ H fun c H1 => QB (!c) H1) : tNot t σ H QB := k
theorem x_andV (k : ta σ H fun x H1 => ∃ c, x = .bl c ∧ if c = true then tb σ H1 Q else Q (.bl false) H1) : tAndV ta tb σ H Q := k
theorem x_orV (k : ta σ H fun x H1 => ∃ c, x = .bl c ∧ if c = true then Q (.bl true) H1 else tb σ H1 Q) : tOrV ta tb σ H Q := k
theorem x_notV (k : ta σ H fun x H1 => ∃ c, x = .bl c ∧ Q (.bl (!c)) H1) : tNotV ta σ H Q := k
theorem x_if (k : t σ H fun c H1 => if c = true then ta σ H1 Q else tb σ H1 Q) : tIf t ta tb σ H Q := k
theorem x_blV {b : Bool} {P : Bool → Prop} (k : P b) : ∃ c, V.bl b = .bl c ∧ P c := ⟨b, rfl, k⟩
theorem x_nil (k : QA [] H) : tNil σ H QA := k
theorem x_cons {tr : TA} (k : te σ H fun x H1 => tr σ H1 fun xs H2 => QA (x :: xs) H2) : tCons te tr σ H QA := k
theorem x_cb {r : List V → Hp → VK → Prop} {tr : TA} (k : tr σ H fun vs H1 => r vs H1 Q) : tCB r tr σ H Q := k
theorem x_call {sp : Sp} {dvs : List V} {E : XK} {tr : TA} (k : tr σ H fun vs H1 => sp (vs ++ dvs) H1 Q E) : tCall sp dvs E tr σ H Q := k
theorem x_lst {tr : TA} (k : tr σ H fun xs H1 => xs.length ≤ sizeLine ∧ ∀ p, H1 p = none → Q (.ref p) (upd H1 p (.lst xs))) : tLst tr σ H Q := k
theorem x_tup {tr : TA} (k : tr σ H fun xs H1 => xs.length ≤ sizeLine ∧ ∀ p, H1 p = none → Q (.ref p) (upd H1 p (.tup xs))) : tTup tr σ H Q := k
theorem x_new {xs : List V} {f : List V → HO} (hl : xs.length ≤ 1000000) (k : ∀ p H2, H p = none → Ex [] H H2 → H2 p = some (f xs) → Q (.ref p) H2) : xs.length ≤ sizeLine ∧ ∀ p, H p = none → Q (.ref p) (upd H p (f xs)) := ⟨sz_of hl, fun p hp => k p _ hp (Ex.new hp) upd_same⟩
theorem x_newL {xs : List V} (hl : xs.length ≤ 1000000) (k : ∀ p H2, H p = none → Ex [] H H2 → H2 p = some (.lst xs) → Q (.ref p) H2) : xs.length ≤ sizeLine ∧ ∀ p, H p = none → Q (.ref p) (upd H p (.lst xs)) := x_new (f := .lst) hl k
theorem x_newT {xs : List V} (hl : xs.length ≤ 1000000) (k : ∀ p H2, H p = none → Ex [] H H2 → H2 p = some (.tup xs) → Q (.ref p) H2) : xs.length ≤ sizeLine ∧ ∀ p, H p = none → Q (.ref p) (upd H p (.tup xs)) := x_new (f := .tup) hl k
theorem x_new1 {o : HO} (k : ∀ p H2, H p = none → Ex [] H H2 → H2 p = some o → Q (.ref p) H2) : ∀ p, H p = none → Q (.ref p) (upd H p o) := fun p hp => k p _ hp (Ex.new hp) upd_same
theorem x_sl {r : V → Option Int → Option Int → Hp → VK → Prop} {tl th : TO} (k : te σ H fun x H1 => tl σ H1 fun l H2 => th σ H2 fun u H3 => r x l u H3 Q) : tSl r te tl th σ H Q := k
theorem x_part {QO : Option Int → Hp → Prop} (k : te σ H fun x H1 => ∃ i, x = .int i ∧ QO (some i) H1) : tPart te σ H QO := k
theorem x_nopart {QO : Option Int → Hp → Prop} (k : QO none H) : tNoPart σ H QO := k
theorem x_int {i : Int} {P : Int → Prop} (k : P i) : ∃ j, V.int i = .int j ∧ P j := ⟨i, rfl, k⟩
theorem x_bm {T : String} {r : V → List V → Hp → VK → Prop} {to : TE} {tr : TA} (k : to σ H fun x H1 => tyV K T x H1 ∧ tr σ H1 fun xs H2 => r x xs H2 Q) : tBM K T r to tr σ H Q := k
theorem x_bm0 {T : String} {r : V → List V → Hp → VK → Prop} {to : TE} (k : to σ H fun x H1 => tyV K T x H1 ∧ r x [] H1 Q) : tBM0 K T r to σ H Q := k
/-! operations -/
theorem x_I0 {f : Int → Int → V} {i j : Int} (k : Q (f i j) H) : rI0 f (.int i) (.int j) H Q := ⟨i, j, rfl, rfl, k⟩
theorem x_I {C : Int → Int → Prop} {f : Int → Int → V} {i j : Int} (h : C i j) (k : Q (f i j) H) : rI C f (.int i) (.int j) H Q := ⟨i, j, rfl, rfl, h, k⟩
theorem x_U {f : Int → V} {i : Int} (k : Q (f i) H) : rU f (.int i) H Q := ⟨i, rfl, k⟩
theorem x_eq (h : scal x y = true) (k : Q (.bl (decide (x = y))) H) : rEq x y H Q := ⟨h, k⟩
theorem x_ne (h : scal x y = true) (k : Q (.bl (!decide (x = y))) H) : rNe x y H Q := ⟨h, k⟩
theorem x_eqI {i j : Int} (k : Q (.bl (decide (i = j))) H) : rEq (.int i) (.int j) H Q := ⟨rfl, by
  have e : decide (V.int i = V.int j) = decide (i = j) := decide_eq_decide.mpr ⟨fun h => V.int.inj h, fun h => by rw [h]⟩
  rw [e]
  exact k⟩
theorem x_neI {i j : Int} (k : Q (.bl (!decide (i = j))) H) : rNe (.int i) (.int j) H Q := ⟨rfl, by
  have e : decide (V.int i = V.int j) = decide (i = j) := decide_eq_decide.mpr ⟨fun h => V.int.inj h, fun h => by rw [h]⟩
  rw [e]
  exact k⟩
theorem x_eqB {i j : Bool} (k : Q (.bl (i == j)) H) : rEq (.bl i) (.bl j) H Q := ⟨rfl, by
  have e : decide (V.bl i = V.bl j) = (i == j) := by cases i <;> cases j <;> rfl
  rw [e]
  exact k⟩
theorem x_neB {i j : Bool} (k : Q (.bl (i != j)) H) : rNe (.bl i) (.bl j) H Q := ⟨rfl, by
  have e : (!decide (V.bl i = V.bl j)) = (i != j) := by cases i <;> cases j <;> rfl
  rw [e]
  exact k⟩
theorem x_eqS {i j : Str} (k : Q (.bl (decide (i = j))) H) : rEq (.str i) (.str j) H Q := ⟨rfl, by
  have e : decide (V.str i = V.str j) = decide (i = j) := decide_eq_decide.mpr ⟨fun h => V.str.inj h, fun h => by rw [h]⟩
  rw [e]
  exact k⟩
theorem x_neS {i j : Str} (k : Q (.bl (!decide (i = j))) H) : rNe (.str i) (.str j) H Q := ⟨rfl, by
  have e : decide (V.str i = V.str j) = decide (i = j) := decide_eq_decide.mpr ⟨fun h => V.str.inj h, fun h => by rw [h]⟩
  rw [e]
  exact k⟩
/-- list or tuple at an index -/
def rIxLT (K : PySem.W.Frag) : R2 := fun x y H Q => rIxL K x y H Q ∨ rIxT K x y H Q
theorem ix_LT {X : Cx} : IxR X (rIxLT X.K) := ix_list.or ix_tup
theorem x_ixL {p : Addr} {xs : List V} {i : Int} (h : SqL K H p xs) (ha : atI xs i = some v) (k : Q v H) : rIxLT K (.ref p) (.int i) H Q := .inl ⟨p, xs, i, v, rfl, rfl, h, ha, k⟩
theorem x_ixT {p : Addr} {xs : List V} {i : Int} (h : SqT K H p xs) (ha : atI xs i = some v) (k : Q v H) : rIxLT K (.ref p) (.int i) H Q := .inr ⟨p, xs, i, v, rfl, rfl, h, ha, k⟩
def rLenLT (K : PySem.W.Frag) : List V → Hp → VK → Prop := fun xs H Q => ∃ p ys, xs = [.ref p] ∧ (SqL K H p ys ∨ SqT K H p ys) ∧ Q (.int ys.length) H
theorem call_lenLT {X : Cx} : CallR X (.builtin "len") (rLenLT X.K) := call_len_seq
theorem x_lenL {p : Addr} {xs : List V} (h : SqL K H p xs) (k : Q (.int (xs.length : Int)) H) : rLenLT K [.ref p] H Q := ⟨p, xs, rfl, .inl h, k⟩
theorem x_lenT {p : Addr} {xs : List V} (h : SqT K H p xs) (k : Q (.int (xs.length : Int)) H) : rLenLT K [.ref p] H Q := ⟨p, xs, rfl, .inr h, k⟩
def rListLT (K : PySem.W.Frag) : List V → Hp → VK → Prop := fun xs H Q => ∃ p ys, xs = [.ref p] ∧ (SqL K H p ys ∨ SqT K H p ys) ∧ ∀ l, H l = none → Q (.ref l) (upd H l (.lst ys))
theorem call_listLT {X : Cx} : CallR X (.type "list") (rListLT X.K) := call_list_of
theorem x_listL {p : Addr} {xs : List V} (h : SqL K H p xs) (k : ∀ l H2, H l = none → Ex [] H H2 → H2 l = some (.lst xs) → Q (.ref l) H2) : rListLT K [.ref p] H Q := ⟨p, xs, rfl, .inl h, x_new1 k⟩
theorem x_listT {p : Addr} {xs : List V} (h : SqT K H p xs) (k : ∀ l H2, H l = none → Ex [] H H2 → H2 l = some (.lst xs) → Q (.ref l) H2) : rListLT K [.ref p] H Q := ⟨p, xs, rfl, .inr h, x_new1 k⟩
def rTupLT (K : PySem.W.Frag) : List V → Hp → VK → Prop := fun xs H Q => ∃ p ys, xs = [.ref p] ∧ ((SqL K H p ys ∧ ∀ l, H l = none → Q (.ref l) (upd H l (.tup ys))) ∨ (SqT K H p ys ∧ Q (.ref p) H))
theorem call_tupLT {X : Cx} : CallR X (.type "tuple") (rTupLT X.K) := call_tuple_of
theorem x_tupL {p : Addr} {xs : List V} (h : SqL K H p xs) (k : ∀ l H2, H l = none → Ex [] H H2 → H2 l = some (.tup xs) → Q (.ref l) H2) : rTupLT K [.ref p] H Q := ⟨p, xs, rfl, .inl ⟨h, x_new1 k⟩⟩
theorem x_tupT {p : Addr} {xs : List V} (h : SqT K H p xs) (k : Q (.ref p) H) : rTupLT K [.ref p] H Q := ⟨p, xs, rfl, .inr ⟨h, k⟩⟩
theorem x_slL {a : Addr} {xs : List V} {lo hi : Option Int} (h : SqL K H a xs) (k : ∀ p H2, H p = none → Ex [] H H2 → H2 p = some (.lst (cutV xs lo hi)) → Q (.ref p) H2) : rSlL K (.ref a) lo hi H Q := ⟨a, xs, rfl, h, x_new1 k⟩
def rInt1 : List V → Hp → VK → Prop := fun xs H Q => (∃ i, xs = [.int i] ∧ Q (.int i) H) ∨ ∃ k, xs = [.bl k] ∧ Q (.int (if k then 1 else 0)) H
theorem call_intX {X : Cx} : CallR X (.type "int") rInt1 := call_int1
theorem x_intc {i : Int} (k : Q (.int i) H) : rInt1 [.int i] H Q := .inl ⟨i, rfl, k⟩
def rAbs : List V → Hp → VK → Prop := fun xs H Q => ∃ i, xs = [.int i] ∧ Q (.int (if i < 0 then -i else i)) H
theorem call_absX {X : Cx} : CallR X (.builtin "abs") rAbs := call_abs
theorem x_abs {i : Int} (k : Q (.int (i.natAbs : Int)) H) : rAbs [.int i] H Q := ⟨i, rfl, by
  have e : (if i < 0 then -i else i) = (i.natAbs : Int) := by split <;> omega
  rw [e]
  exact k⟩
theorem x_isN (k : Q (.bl (decide (x = .non))) H) : (fun x y H Q => y = .non ∧ Q (.bl (decide (x = .non))) H : R2) x .non H Q := ⟨rfl, k⟩
def rIsN : R2 := fun x y H Q => y = .non ∧ Q (.bl (decide (x = .non))) H
def rNotN : R2 := fun x y H Q => y = .non ∧ Q (.bl (!decide (x = .non))) H
theorem op_isNX {X : Cx} : OpR X (compareOp .Is) rIsN := op_isN
theorem op_notNX {X : Cx} : OpR X (compareOp .IsNot) rNotN := op_notN
theorem x_isNo (k : Q (.bl (decide (x = .non))) H) : rIsN x .non H Q := ⟨rfl, k⟩
theorem x_notNo (k : Q (.bl (!decide (x = .non))) H) : rNotN x .non H Q := ⟨rfl, k⟩
/-- + of ints, lists, tuples, texts -/
def rAddU (K : PySem.W.Frag) : R2 := fun x y H Q => rI0 (fun i j => .int (i + j)) x y H Q ∨ rCat x y H Q ∨ rCatT K x y H Q ∨ ∃ i j, x = .str i ∧ y = .str j ∧ i.length + j.length ≤ sizeLine ∧ Q (.str (i ++ j)) H
theorem op_addU {X : Cx} : OpR X (binaryOp .Add) (rAddU X.K) := op_add.or (op_cat.or (op_catT.or op_add_str))
theorem x_addI {i j : Int} (k : Q (.int (i + j)) H) : rAddU K (.int i) (.int j) H Q := .inl ⟨i, j, rfl, rfl, k⟩
theorem x_addL {l b : Addr} {xs zs : List V} (h1 : H l = some (.lst xs)) (h2 : H b = some (.lst zs)) (hz : xs.length + zs.length ≤ 1000000) (k : ∀ p H2, H p = none → Ex [] H H2 → H2 p = some (.lst (xs ++ zs)) → Q (.ref p) H2) : rAddU K (.ref l) (.ref b) H Q :=
  .inr (.inl ⟨l, b, xs, zs, rfl, rfl, h1, h2, sz_of hz, x_new1 k⟩)
theorem x_neg {i : Int} (k : Q (.int (-i)) H) : rU (fun i => .int (-i)) (.int i) H Q := ⟨i, rfl, k⟩
/-! statements -/
theorem x_seq (k : tu { D with nx := tw D } σ H) : tSeq tu tw D σ H := k
theorem x_next (k : D.nx σ H) : tNext D σ H := k
theorem x_asg (k : te σ H fun x H1 => g x σ H1 D.nx) : tAsg te g D σ H := k
theorem x_gname {i : Nat} {σ' : L2.St} {QS : L2.St → Hp → Prop} (e : σ.set i (some v) = σ') (k : QS σ' H) : gName i v σ H QS := by
  unfold gName
  rw [e]
  exact k
theorem x_gsub {to ti : TE} {tt : TSet} {QS : L2.St → Hp → Prop} (k : to σ H fun o H1 => ti σ H1 fun i H2 => tt o i v H2 fun H3 => QS σ H3) : gSub to ti tt v σ H QS := k
theorem x_setL {p : Addr} {xs : List V} {i : Int} {j : Nat} {QH : Hp → Prop} (h : H p = some (.lst xs)) (hi : ixN xs.length i = some j) (k : QH (upd H p (.lst (xs.set j v)))) : rSetL (.ref p) (.int i) v H QH := ⟨p, xs, i, j, rfl, rfl, h, hi, k⟩
theorem x_setL2 {p : Addr} {xs xs' : List V} {i : Int} {j : Nat} {QH : Hp → Prop} (h : H p = some (.lst xs)) (hi : ixN xs.length i = some j) (hx : xs.set j v = xs') (k : ∀ H2, Ex [p] H H2 → H2 p = some (.lst xs') → QH H2) : rSetL (.ref p) (.int i) v H QH := ⟨p, xs, i, j, rfl, rfl, h, hi, k _ (Ex.wr (List.mem_cons_self ..) (Ex.refl H)) (by rw [upd_same, hx])⟩
theorem x_app2 {l : Addr} {xs : List V} (h : H l = some (.lst xs)) (hz : xs.length < 1000000) (k : ∀ H2, Ex [l] H H2 → H2 l = some (.lst (xs ++ [y])) → Q .non H2) : rAppend (.ref l) [y] H Q := ⟨l, xs, y, rfl, rfl, h, sz_lt hz, k _ (Ex.wr (List.mem_cons_self ..) (Ex.refl H)) upd_same⟩
theorem x_ret (k : te σ H D.rt) : tRet te D σ H := k
theorem x_retN (k : D.rt .non H) : tRetN D σ H := k
theorem x_drop (k : te σ H fun _ H1 => D.nx σ H1) : tDrop te D σ H := k
theorem x_ifS (k : t σ H fun b H1 => if b = true then tu D σ H1 else tw D σ H1) : tIfS t tu tw D σ H := k
theorem x_brk (k : D.bk σ H) : tBreak D σ H := k
theorem x_cnt (k : D.ct σ H) : tCont D σ H := k
theorem x_par {i j : Nat} {ta : TA} (k : ta σ H fun vs H1 => ∃ v w, vs = [v, w] ∧ D.nx ((σ.set i (some v)).set j (some w)) H1) : tPar i j ta D σ H := k
theorem x_par2 {P : V → V → Prop} (k : P x y) : ∃ v w, ([x, y] : List V) = [v, w] ∧ P v w := ⟨x, y, rfl, k⟩
theorem x_gtup {n : Nat} {gs : TGs} {a : Addr} {xs : List V} {QS : L2.St → Hp → Prop} (h : SqT K H a xs) (hl : xs.length = n) (k : gs xs σ H QS) : gTup K n gs (.ref a) σ H QS := ⟨a, xs, rfl, h, hl, k⟩
theorem x_gcons {gs : TGs} {xs : List V} {QS : L2.St → Hp → Prop} (k : g x σ H fun σ' H' => gs xs σ' H' QS) : gCons g gs (x :: xs) σ H QS := ⟨x, xs, rfl, k⟩
theorem x_gnil {QS : L2.St → Hp → Prop} (k : QS σ H) : gNil [] σ H QS := ⟨rfl, k⟩
theorem x_app {l : Addr} {xs : List V} {K : PySem.W.Frag} (h : H l = some (.lst xs)) (hz : xs.length < 1000000) (k : Q .non (upd H l (.lst (xs ++ [y])))) : rAppend (.ref l) [y] H Q := ⟨l, xs, y, rfl, rfl, h, sz_lt hz, k⟩
theorem x_tyL {p : Addr} {xs : List V} {P : Prop} (h : H p = some (.lst xs)) (k : P) : tyV K "list" (.ref p) H ∧ P := ⟨Or.inl ⟨rfl, xs, sql_of h⟩, k⟩
theorem cpow_of {i j : Int} (h0 : 0 ≤ j) (h1 : j ≤ 1000000) (h2 : -18446744073709551616 < i) (h3 : i < 18446744073709551616) : CPow i j := ⟨h0, h1, by
  have e : (2 : Nat) ^ 64 = 18446744073709551616 := by decide
  rw [e]
  omega⟩
theorem cmul_of {i j : Int} (h0 : -18446744073709551616 < i) (h1 : i < 18446744073709551616) (h2 : -18446744073709551616 < j) (h3 : j < 18446744073709551616) : CMulW i j := by
  have e : (2 : Nat) ^ 64 = 18446744073709551616 := by decide
  exact wide_mul (a := 64) (b := 64) (by rw [e]; omega) (by rw [e]; omega) (by decide) (by decide) (by decide)
theorem cdiv_of {i j : Int} (h0 : 0 < j) (h1 : j < 18446744073709551616) : CDivW i j := by
  have e : (2 : Nat) ^ 64 = 18446744073709551616 := by decide
  exact wide_div (b := 64) h0 (by rw [e]; omega) (by decide) (by decide)
theorem atI_ints {ns : List Int} {i : Int} (h0 : 0 ≤ i) (h : i < ((ns.map V.int).length : Int)) : ∃ z, ns[i.toNat]? = some z ∧ atI (ns.map V.int) i = some (.int z) := by
  rw [List.length_map] at h
  have hi : i.toNat < ns.length := by omega
  refine ⟨ns[i.toNat], List.getElem?_eq_getElem hi, ?_⟩
  have e : (ns.map V.int)[i.toNat]? = some (.int ns[i.toNat]) := by rw [List.getElem?_map, List.getElem?_eq_getElem hi]; rfl
  have q := atI_nat e
  rw [Int.toNat_of_nonneg h0] at q
  exact q
/-! tests decided -/
theorem x_ite {c A B : Prop} [Decidable c] (h1 : c → A) (h2 : ¬ c → B) : if decide c = true then A else B := by
  by_cases h : c
  · rw [decide_eq_true h]; exact h1 h
  · rw [decide_eq_false h]; exact h2 h
theorem x_iteN {c A B : Prop} [Decidable c] (h1 : ¬ c → A) (h2 : c → B) : if (!decide c) = true then A else B := by
  by_cases h : c
  · rw [decide_eq_true h]; exact h2 h
  · rw [decide_eq_false h]; exact h1 h
theorem x_iteb {b : Bool} {A B : Prop} (h1 : b = true → A) (h2 : b = false → B) : if b = true then A else B := by
  cases b
  · exact h2 rfl
  · exact h1 rfl
theorem x_itebN {b : Bool} {A B : Prop} (h1 : b = false → A) (h2 : b = true → B) : if (!b) = true then A else B := by
  cases b
  · exact h1 rfl
  · exact h2 rfl
theorem x_iteY {A B : Prop} (h : A) : if true = true then A else B := h
theorem x_iteNo {A B : Prop} (h : B) : if false = true then A else B := h
theorem x_iteT {b : Bool} {A B : Prop} (e : b = true) (h : A) : if b = true then A else B := by rw [e]; exact h
theorem x_iteF {b : Bool} {A B : Prop} (e : b = false) (h : B) : if b = true then A else B := by rw [e]; exact h
end
end BF
/-! ## What the head tells: names, defs, classes -/
namespace BF
open PySem PySem.Spec PyProof.Rows L2
/-- the function object at a place of the text -/
def fdOf (K : PySem.W.Frag) (p : Str × Option Str) : FuncData := match K.lookup (He.fAd K p) with
  | some ⟨_, _, .func fd, _⟩ => fd
  | _ => PySem.W.fnOf "" "" { posonlyargs := [], args := [], vararg := none, kwonlyargs := [], kw_defaults := [], kwarg := none, defaults := [] } [] { kind := .function, names := [], isGenerator := false, isCoroutine := false } .none .none .none .none none .none .none
structure TX (fa : List He.Fa) (fn : List He.DefD) (ex : PySem.W.Frag → Bool) (K : PySem.W.Frag) (mg : Str → Option Value) : Prop where
  d : He.SaysD fa fn K
  more : ex K = true
  gl : ∀ (x : Str) (v : Value), PySem.W.nsIn K mainGlobals x = some (some v) → mg x = some v
  gn : ∀ (x : Str), PySem.W.nsIn K mainGlobals x = some none → mg x = none
section
variable {fa : List He.Fa} {fn : List He.DefD} {ex : PySem.W.Frag → Bool} {K : PySem.W.Frag} {mg : Str → Option Value}
theorem TX.fact (T : TX fa fn ex K mg) (p : He.Fa → Bool) (h : fa.any p = true) : ∃ f, p f = true ∧ f.ok K = true := by
  obtain ⟨f, hf, e⟩ := List.any_eq_true.mp h
  obtain ⟨i, hi, ei⟩ := List.mem_iff_getElem.mp hf
  exact ⟨f, e, T.d.fact i (f := f) (by rw [List.getElem?_eq_getElem hi, ei])⟩
def isFree (x : Str) : He.Fa → Bool
  | .free y => decide (y = x)
  | _ => false
def isGlo (x : Str) : He.Fa → Bool
  | .glo y => decide (y = x)
  | _ => false
def isCls (x : Str) : He.Fa → Bool
  | .cls y => decide (y = x)
  | _ => false
def isMkr (x : Str) : He.Fa → Bool
  | .mkr y => decide (y = x)
  | _ => false
def isNoat (x f : Str) : He.Fa → Bool
  | .noat y g => decide (y = x) && decide (g = f)
  | _ => false
def isMeth (x f : Str) : He.Fa → Bool
  | .meth y g => decide (y = x) && decide (g = f)
  | _ => false
def isExm (x y : Str) (b : Bool) : He.Fa → Bool
  | .exm u v c => decide (u = x) && (decide (v = y) && decide (c = b))
  | _ => false
theorem TX.free (T : TX fa fn ex K mg) (x : Str) (h : fa.any (isFree x) = true) : mg x = none := by
  obtain ⟨f, e, o⟩ := T.fact _ h
  cases f with
  | free y =>
    have q : y = x := of_decide_eq_true e
    rw [← q]
    exact T.gn y (He.eqO_ok o)
  | _ => cases e
theorem TX.glo (T : TX fa fn ex K mg) (x : Str) (h : fa.any (isGlo x) = true) : mg x = some (.ref (He.ga K x)) := by
  obtain ⟨f, e, o⟩ := T.fact _ h
  cases f with
  | glo y =>
    have q : y = x := of_decide_eq_true e
    rw [← q]
    exact T.gl y _ (He.eqO_ok o)
  | _ => cases e
theorem TX.cls (T : TX fa fn ex K mg) (x : Str) (h : fa.any (isCls x) = true) : Cls K (He.ga K x) := by
  obtain ⟨f, e, o⟩ := T.fact _ h
  cases f with
  | cls y =>
    have q : y = x := of_decide_eq_true e
    rw [← q]
    exact He.cls_ok o
  | _ => cases e
theorem TX.mkr (T : TX fa fn ex K mg) (x : Str) (h : fa.any (isMkr x) = true) : Mk K (He.ga K x) (He.ma K (He.ga K x) "__init__") := by
  obtain ⟨f, e, o⟩ := T.fact _ h
  cases f with
  | mkr y =>
    have q : y = x := of_decide_eq_true e
    rw [← q]
    exact He.mkr_ok o
  | _ => cases e
theorem TX.noat (T : TX fa fn ex K mg) (x a : Str) (h : fa.any (isNoat x a) = true) : NoAttr K (He.ga K x) a := by
  obtain ⟨f, e, o⟩ := T.fact _ h
  cases f with
  | noat y g =>
    obtain ⟨q1, q2⟩ := He.ba e
    rw [← (of_decide_eq_true q1 : y = x), ← (of_decide_eq_true q2 : g = a)]
    exact He.noat_ok o
  | _ => cases e
theorem TX.meth (T : TX fa fn ex K mg) (x m : Str) (h : fa.any (isMeth x m) = true) : Meth K (He.ga K x) m (He.ma K (He.ga K x) m) := by
  obtain ⟨f, e, o⟩ := T.fact _ h
  cases f with
  | meth y g =>
    obtain ⟨q1, q2⟩ := He.ba e
    rw [← (of_decide_eq_true q1 : y = x), ← (of_decide_eq_true q2 : g = m)]
    exact He.meth_ok o
  | _ => cases e
theorem TX.exm (T : TX fa fn ex K mg) (x y : Str) (b : Bool) (h : fa.any (isExm x y b) = true) : PySem.W.exmOne K (.ref (He.ga K x)) (.ref (He.ga K y)) = some b := by
  obtain ⟨f, e, o⟩ := T.fact _ h
  cases f with
  | exm u v c =>
    obtain ⟨q1, q2⟩ := He.ba e
    obtain ⟨q2, q3⟩ := He.ba q2
    rw [← (of_decide_eq_true q1 : u = x), ← (of_decide_eq_true q2 : v = y), ← (of_decide_eq_true q3 : c = b)]
    exact He.exm_ok o
  | _ => cases e
theorem TX.fn_ (T : TX fa fn ex K mg) (i : Nat) {d : He.DefD} (h : fn[i]? = some d) : FunD K d.name d.qual d.params d.body d.scope (d.dvs K) (d.kws K) (He.fAd K d.at_) (fdOf K d.at_) := by
  obtain ⟨fd, F⟩ := T.d.def_ i h
  have e : fd = fdOf K d.at_ := by
    obtain ⟨oc, od, dV, kV, doc, pm, an, cdv, ct, osl, h1, h2, _⟩ := F.ex
    unfold fdOf
    rw [h2]
  rw [← e]
  exact F
end
/-! ### exception classes with an __init__ of their own -/
/-- the class object of an exception class over ValueError -/
def oexB (K : PySem.W.Frag) (C : Addr) : Bool := (match K.lookup C with
  | some ⟨.type "type", _, .cls cd, sl⟩ => (match cd.mro, sl.toList with
    | .ref C' :: bm, [_, _, _, _, some (.builtin n), _] => decide (C' = C) && (decide (n = "ValueError.__new__") && (!cd.hasDel && (cd.hasDict && PySem.HandSPX.refsVE bm)))
    | _, _ => false)
  | _ => false) && (decide (PySem.W.findIn K (.ref C) "__setattr__" = some (some (.builtin "object.__setattr__"))) && (decide (PySem.W.subIn K (.ref C) (.type "BaseException") = some true) && (decide (PySem.W.typeIn K (.ref C) = some (.type "type")) && PySem.W.keepIn K (.ref C))))
theorem oexB_ok {K : PySem.W.Frag} {C : Addr} (h : oexB K C = true) : OexC K C := by
  unfold oexB at h
  obtain ⟨h1, h⟩ := He.ba h
  obtain ⟨h2, h⟩ := He.ba h
  obtain ⟨h3, h⟩ := He.ba h
  obtain ⟨h4, h5⟩ := He.ba h
  refine ⟨?_, of_decide_eq_true h2, of_decide_eq_true h3, of_decide_eq_true h4, h5⟩
  split at h1
  · rename_i dd cd sl ho
    split at h1
    · rename_i C' bm k0 k1 k2 k3 n k5 hm hs
      obtain ⟨e1, h1⟩ := He.ba h1
      obtain ⟨e2, h1⟩ := He.ba h1
      obtain ⟨e3, h1⟩ := He.ba h1
      obtain ⟨e4, e5⟩ := He.ba h1
      obtain ⟨nm, bs, mro, ns, qn, hd, sn, sub, ab, col, del⟩ := cd
      dsimp only at hm e3 e4
      have q1 : C' = C := of_decide_eq_true e1
      have q2 : n = "ValueError.__new__" := of_decide_eq_true e2
      subst q1 q2 hm e4
      have q3 : del = false := by simpa using e3
      subst q3
      have hsl : sl = #[k0, k1, k2, k3, some (.builtin "ValueError.__new__"), k5] := by
        obtain ⟨l⟩ := sl
        simp only at hs
        rw [hs]
      subst hsl
      exact ⟨nm, qn, ns, bs, bm, sn, sub, ab, col, dd, k0, k1, k2, k3, k5, ho, e5⟩
    · cases h1
  · cases h1
/-- what an exception class with fields must say: its name in the module, its fields -/
structure ExcD where
  name : Str
  atts : List Str
def ExcD.ok (K : PySem.W.Frag) (e : ExcD) : Bool := oexB K (He.ga K e.name) && (xfB K (He.ga K e.name) && ((e.atts.all fun f => decide (PySem.W.findIn K (.ref (He.ga K e.name)) f = some none)) &&
  (decide (PySem.W.findIn K (.ref (He.ga K e.name)) "__init__" = some (some (.ref (He.ma K (He.ga K e.name) "__init__")))) && decide (PySem.W.typeIn K (.ref (He.ma K (He.ga K e.name) "__init__")) = some (.type "function")))))
structure ExcOk (K : PySem.W.Frag) (x : Str) : Prop where
  oex : OexC K (He.ga K x)
  xf : XfC K (He.ga K x)
  ini : PySem.W.findIn K (.ref (He.ga K x)) "__init__" = some (some (.ref (He.ma K (He.ga K x) "__init__")))
  fun_ : PySem.W.typeIn K (.ref (He.ma K (He.ga K x) "__init__")) = some (.type "function")
theorem ExcD.to {K : PySem.W.Frag} {e : ExcD} (h : e.ok K = true) : ExcOk K e.name ∧ ∀ f ∈ e.atts, PySem.W.findIn K (.ref (He.ga K e.name)) f = some none := by
  obtain ⟨h1, h⟩ := He.ba h
  obtain ⟨h2, h⟩ := He.ba h
  obtain ⟨h3, h⟩ := He.ba h
  obtain ⟨h4, h5⟩ := He.ba h
  exact ⟨⟨oexB_ok h1, xfB_ok h2, of_decide_eq_true h4, of_decide_eq_true h5⟩, fun f hf => of_decide_eq_true (List.all_eq_true.mp h3 f hf)⟩
/-- an instance class whose instances are asked by isinstance -/
def isiB (K : PySem.W.Frag) (C : Addr) : Bool := decide (PySem.W.findIn K (.ref C) "__class__" = some (some (.builtin "object.__class__"))) && (decide (PySem.W.specialIn K (.builtin "object.__class__") "__get__" = some (some (.builtin "getset_descriptor.__get__"))) &&
  (decide (PySem.W.takesIn K (.builtin "object.__class__") = some true) && decide (PySem.W.mroIn K C (.type "object") = some true)))
theorem isiB_ty {K : PySem.W.Frag} {C a dx : Addr} {fs : List (Str × V)} {H : Hp} (h : isiB K C = true) (c : Cls K C) (e : H a = some (.ins C dx fs)) : TyX K H (.ref a) (.ref C) := by
  obtain ⟨h1, h⟩ := He.ba h
  obtain ⟨h2, h⟩ := He.ba h
  obtain ⟨h3, h4⟩ := He.ba h
  exact .base (.ins e c (of_decide_eq_true h1) (of_decide_eq_true h2) (of_decide_eq_true h3) (of_decide_eq_true h4))
theorem kitO {K : PySem.W.Frag} {C : Addr} : PySem.W.kitOne K (.ref C) (.ref C) = some true := by
  unfold PySem.W.kitOne
  rw [if_pos (beq_self_eq_true _)]
end BF
/-! ## Further rules: operators of own classes, calls by keywords alone, exceptions without values -/
namespace BF
open PySem PySem.Spec PyProof.Rows L2
section
variable {X : Cx} {CX : CXT} {k : Nat} {f C : Addr} {fd : FuncData} {ps : List Str} {sp : Sp} {E : XK}
theorem cmpBack_of {pins : List (Addr × Obj)} {σ : L2.St} {Q : VK} {u : Value} {s' : Shared} (h : EP X pins σ Q u s') : PySem.W.CmpBack (EP X pins σ Q) u s' := by
  cases u with
  | notImplemented =>
    obtain ⟨v, H', I, r, q⟩ := h
    cases v with
    | non => cases r
    | bl b => cases r
    | int i => obtain ⟨t, r⟩ := r; cases r
    | str i => obtain ⟨t, r⟩ := r; cases r
    | byt i => obtain ⟨t, r⟩ := r; cases r
    | flt i => obtain ⟨t, r⟩ := r; cases r
    | ref a => cases r
    | ty n => cases r
  | _ => exact h
/-- a op b of two instances of the class at C by its own method -/
def rOwn (C : Addr) (sp : Sp) (E : XK) : R2 := fun x y H Q => ∃ a b dx dy fs gs, x = .ref a ∧ y = .ref b ∧ H a = some (.ins C dx fs) ∧ H b = some (.ins C dy gs) ∧ sp [.ref a, .ref b] H Q E
theorem op_ownB {op : Operator} (F : FnOk X.prog X.w X.K X.mg X.base CX k f fd ps sp) (hr : Room k X.A) (hc : PySem.W.selfFirst X.K C = true) (hs : PySem.W.findIn X.K (.ref C) (PySem.dunder op.info.2) = some (some (.ref f))) (hf : PySem.W.isFn X.K (.ref f) = true)
    (hb : Binds X.K fd ps []) (hx : Passes CX X E) : OpR X (binaryOp op) (rOwn C sp E) := by
  intro pins s σ H x y v u Q I rx ry hq
  obtain ⟨a, b, dx, dy, fs, gs, rfl, rfl, ha, hb', q⟩ := hq
  cases rx
  cases ry
  obtain ⟨mA, J, _⟩ := ins_get I.hok ha
  obtain ⟨mB, J', _⟩ := ins_get I.hok hb'
  obtain ⟨od, J, _⟩ := J.look
  obtain ⟨od', J', _⟩ := J'.look
  obtain ⟨m, hF⟩ := I.fr
  refine PySem.W.binop_K hF I.ok.mod.kin J J'.type hc hs hf ?_
  exact thn (run_fn (us := [.ref a, .ref b]) (vs := [.ref a, .ref b]) F hr hb .nil hx I (.cons rfl (.cons rfl .nil)) q) fun u s' h => cmpBack_of h
theorem op_ownEq (F : FnOk X.prog X.w X.K X.mg X.base CX k f fd ps sp) (hr : Room k X.A) (hs : PySem.W.findIn X.K (.ref C) "__eq__" = some (some (.ref f))) (hf : PySem.W.isFn X.K (.ref f) = true)
    (hb : Binds X.K fd ps []) (hx : Passes CX X E) : OpR X (compareOp .Eq) (rOwn C sp E) := by
  intro pins s σ H x y v u Q I rx ry hq
  obtain ⟨a, b, dx, dy, fs, gs, rfl, rfl, ha, hb', q⟩ := hq
  cases rx
  cases ry
  obtain ⟨mA, J, _⟩ := ins_get I.hok ha
  obtain ⟨mB, J', _⟩ := ins_get I.hok hb'
  obtain ⟨od, J, _⟩ := J.look
  obtain ⟨od', J', _⟩ := J'.look
  obtain ⟨m, hF⟩ := I.fr
  show wpAny (model X.prog X.w) X.A (richCompare .Eq (.ref a) (.ref b)) (EP X pins σ Q) X.xe s
  refine PySem.W.cmp_K (op := .Eq) (tb := .ref C) hr.units0 hF I.ok.mod.kin J J'.type (by simp [PySem.W.notFirst]) hs hf ?_
  exact thn (run_fn (us := [.ref a, .ref b]) (vs := [.ref a, .ref b]) F hr hb .nil hx I (.cons rfl (.cons rfl .nil)) q) fun u s' h => cmpBack_of h
/-- ~a of an instance of the class at C -/
def rOwn1 (C : Addr) (sp : Sp) (E : XK) : V → Hp → VK → Prop := fun x H Q => ∃ a dx fs, x = .ref a ∧ H a = some (.ins C dx fs) ∧ sp [.ref a] H Q E
theorem un_ownInv (F : FnOk X.prog X.w X.K X.mg X.base CX k f fd ps sp) (hr : Room k X.A) (hs : PySem.W.findIn X.K (.ref C) "__invert__" = some (some (.ref f))) (hf : PySem.W.isFn X.K (.ref f) = true)
    (hb : Binds X.K fd ps []) (hx : Passes CX X E) : UnR X (unaryOp .Invert) (rOwn1 C sp E) := by
  intro pins s σ H x v Q I rx hq
  obtain ⟨a, dx, fs, rfl, ha, q⟩ := hq
  cases rx
  obtain ⟨mA, J, _⟩ := ins_get I.hok ha
  obtain ⟨od, J, _⟩ := J.look
  obtain ⟨m, hF⟩ := I.fr
  refine PySem.W.ksp_inv hF I.ok.mod.kin J hs hf ?_
  exact run_fn (us := [.ref a]) (vs := [.ref a]) F hr hb .nil hx I (.cons rfl .nil) q
theorem x_own {sp : Sp} {K : PySem.W.Frag} {H : Hp} {a b dx dy : Addr} {fs gs : List (Str × V)} {Q : VK} (h1 : H a = some (.ins C dx fs)) (h2 : H b = some (.ins C dy gs)) (k : sp [.ref a, .ref b] H Q E) : rOwn C sp E (.ref a) (.ref b) H Q := ⟨a, b, dx, dy, fs, gs, rfl, rfl, h1, h2, k⟩
theorem x_own1 {sp : Sp} {H : Hp} {a dx : Addr} {fs : List (Str × V)} {Q : VK} (h1 : H a = some (.ins C dx fs)) (k : sp [.ref a] H Q E) : rOwn1 C sp E (.ref a) H Q := ⟨a, dx, fs, rfl, h1, k⟩
end
section
variable {X : Cx} {CX : CXT} {k n : Nat} {f : Addr} {fd : FuncData} {ps ks : List Str} {sp : Sp} {E : XK} {x : Str} {p pos : Pos} {kws : List Keyword} {tk : TA} {g : List Value → List Value → List Value} {gV : List V → List V → List V}
/-- f(k = v, ..): keywords alone -/
theorem pe_callN0 (F : FnOk X.prog X.w X.K X.mg X.base CX k f fd ps sp) (hr : Room k X.A) (hg : Gl X x) (hm : X.mg x = some (.ref f)) (hk : PySem.W.keepIn X.K (.ref f) = true) (hb : KBn X.K fd ps 0 ks g gV) (hx : Passes CX X E)
    (hkw : PK X kws tk) (hall : (backToKw pos (keywordEach kws X.env)).all (·.1.isSome) = true := by rfl) (hks : (backToKw pos (keywordEach kws X.env)).filterMap (·.1) = ks := by rfl)
    (hdb : (x == ("__debug__" : Str)) = false := by decide)
    (hpl : ((backTo pos (starEach [] X.env)).any (·.1) || (backToKw pos (keywordEach kws X.env)).any (·.1.isNone)) = false := by rfl) :
    PE X (.Call (.Name x p) [] kws pos) (tCallN 0 ks.length sp gV E tNil tk) := by
  refine ⟨fun pins s σ H Q I h => ?_⟩
  refine wpAny_Call_Name_kw (ld_glob I hg hm ?_ hdb)
  refine PySem.W.callWith_KW0 (h₀ := X.base) I.ok.mod.kin hk hall ?_ hpl
  refine thn (hkw.run pos pins s σ H _ I h) fun ws s2 ⟨zs, H2, I2, rz, l1, l2, q2⟩ => ⟨I2.kIn, ?_⟩
  rw [hks]
  exact run_fnN (us := []) (vs := []) F hr hb hx I2 .nil rz l1 l2 q2
/-- binding by keywords, no defaults: g puts the positional values and the keywords' values in the parameters' order -/
theorem kbn_of {K : PySem.W.Frag} {x qual : Str} {params : Arguments} {body : List Stmt} {scope : Scope} {kws : List (Str × V)} {f : Addr} {fd : FuncData} {ps : List Str} (F : FunD K x qual params body scope [] kws f fd) (n : Nat) (ks : List Str) (g : {α : Type} → List α → List α → List α)
    (hrel : ∀ {vs zs : List V} {us ws : List Value}, Vals vs us → Vals zs ws → Vals (g vs zs) (g us ws))
    (h : ∀ (kV doc pm : Value) (an : Option Addr) (cdv ct : Value) (us ws : List Value), us.length = n → ws.length = ks.length → bindArgs (PySem.W.fnOf x qual params body scope .none kV doc pm an cdv ct) ⟨us, ks.zip ws⟩ = pure (ps.zip (g us ws))) :
    KBn K fd ps n ks (fun us ws => g us ws) (fun vs zs => g vs zs) := by
  obtain ⟨oc, od, dV, kV, doc, pm, an, cdv, ct, osl, rfl, lk, hcd, hD, hK⟩ := F.ex
  rcases hD with ⟨_, rfl⟩ | ⟨e, _⟩
  · exact ⟨fun s us ws _ l1 l2 => .of_eq (h kV doc pm an cdv ct us ws l1 l2), fun r1 r2 => hrel r1 r2⟩
  · exact absurd rfl e
end
section
variable {X : Cx} {CX : CXT} {k : Nat} {fI C : Addr} {fd : FuncData} {ps : List Str} {sp : Sp} {x : Str} {p pos : Pos}
/-- raise C() -/
theorem pmk_oex0 (T : OexC X.K C) (iC : PySem.W.findIn X.K (.ref C) "__init__" = some (some (.ref fI))) (tI : PySem.W.typeIn X.K (.ref fI) = some (.type "function"))
    (F1 : FnOk X.prog X.w X.K X.mg X.base CX k fI fd ps sp) (hr : Room (k + 1) X.A) (hb : Binds X.K fd ps []) (hx : Passes CX X (fun _ _ _ => False)) (hg : Gl X x) (hm : X.mg x = some (.ref C))
    (hdb : (x == ("__debug__" : Str)) = false := by decide) :
    PMk X (.Call (.Name x p) [] [] pos) (tMkO C sp [] tNil) := by
  intro pins s σ H Q I h
  obtain ⟨nm, q, N, bs, bm, sn, sub, ab, col, dd, k0, k1, k2, k3, k5, hC, hbm⟩ := T.cls
  refine wpAny_Call_Name_kw (ld_glob I hg hm ?_ hdb)
  obtain ⟨hz, q1⟩ := h
  refine PySem.W.callWith_K0 I.kIn T.kC ?_
  show wpAny _ _ (call (.ref C) []) _ _ _
  obtain ⟨hp, g, dr, tk, os⟩ := s
  have hsz : hp.objs.size ≤ hp.objs.size + 1 := Nat.le_succ _
  have hn : H (hp.objs.size + 1) = none := I.hok.fresh hsz
  have hq := q1 (hp.objs.size + 1) hn
  have kk : ∀ b o, hp.get? b = some o → ((hp.push (PySem.W.kdv_tup [])).push (PySem.HandSPX.excO C hp.objs.size)).get? b = some o := fun b o e => Heap.get?_push_of_some _ (Heap.get?_push_of_some _ e)
  have hget : ((hp.push (PySem.W.kdv_tup [])).push (PySem.HandSPX.excO C hp.objs.size)).get? (hp.objs.size + 1) = some (PySem.HandSPX.excO C hp.objs.size) := by heap_get
  have I2 : Inv X pins σ (upd H (hp.objs.size + 1) (exo (hp.objs.size + 1) C none)) ⟨(hp.push (PySem.W.kdv_tup [])).push (PySem.HandSPX.excO C hp.objs.size), g, dr, tk, os⟩ :=
    I.laid (t' := tk) (a := hp.objs.size + 1) (o := exo (hp.objs.size + 1) C none) (h' := (hp.push (PySem.W.kdv_tup [])).push (PySem.HandSPX.excO C hp.objs.size)) kk hsz (exo_ok hget)
  have r2 : Vals [V.ref (hp.objs.size + 1)] [Value.ref (hp.objs.size + 1)] := .cons rfl .nil
  have hl : ([Value.ref (hp.objs.size + 1)] ++ ([] : List Value)).length = ps.length := by
    have e := r2.length
    have e2 := F1.len _ _ _ _ hq
    rw [← e2] <;> rfl
  refine wpAny_call (PySem.HandSPX.call_own F.excBase_ValueError (fun Y => PySem.HandSPX.refsVE_contains Y bm hbm) (I.kIn _ _ hC) (PySem.W.looks_findIn I.kIn iC) (fun self => PySem.W.bind_fn I.kIn self tI) (rest := []) (Nat.zero_le _)
    (codeAny_mono (F1.run _ X.stack _ _ ⟨[Value.ref (hp.objs.size + 1)], []⟩ ([Value.ref (hp.objs.size + 1)] ++ []) _ _ (fun _ _ _ => False) (hr.make C [] []) (I2.env0.make C [] []) (hb _ [Value.ref (hp.objs.size + 1)] I2.kIn hl) r2 hq) fun r s' hq' => ?_))
  cases r with
  | error er => exact hx pins σ _ _ er s' I2 hq'
  | ok fl =>
    cases fl with
    | ret u =>
      obtain ⟨v, H2, os2, bare2, un2, hok2, rv, ev, d, fs, ea, ed, hd1, q2⟩ := hq'
      subst ev
      obtain ⟨h2, g2, d2, t2, os'⟩ := s'
      exact ⟨rv, mk_end (raises_own T.exC T.tyC) I hsz kk un2 hok2 os2 bare2 ea ed hd1 q2⟩
    | next => exact False.elim hq'
    | brk => exact False.elim hq'
    | cont => exact False.elim hq'
end
end BF
/-! ## Loops, comprehensions, data, isinstance -/
namespace BF
open PySem PySem.Spec PyProof.Rows L2
section
variable {K : PySem.W.Frag} {σ : L2.St} {H : Hp} {D : Ends} {g : TG} {tb : TS} {xs ys : List V}
theorem x_for {wi : TI} (k : wi σ H fun J H1 => ∃ W : Nat → Nat → L2.St → Hp → Prop, (∃ m, W 0 m σ H1) ∧ ∀ i m σ H, W i m σ H →
    (J.stop i H ∧ D.nx σ H) ∨ (J.go i H ∧ ∃ N : L2.St → Hp → Prop, (∀ σ' H', N σ' H' → ∃ m', m' < m ∧ W (i + 1) m' σ' H') ∧ ∀ x H', J.yld i H x H' → g x σ H' fun σ2 H2 => tb { D with nx := N, ct := N, bk := D.nx } σ2 H2)) : tFor wi g tb D σ H := k
theorem x_ilist {tl : TE} {R : It → Hp → Prop} (k : tl σ H fun x H1 => ∃ a, x = .ref a ∧ (∃ xs, SqL K H1 a xs) ∧ R (Itl K a) H1) : iList K tl σ H R := k
theorem x_itup {tl : TE} {R : It → Hp → Prop} (k : tl σ H fun x H1 => ∃ a, x = .ref a ∧ (∃ xs, SqT K H1 a xs) ∧ R (Itt K a) H1) : iTup K tl σ H R := k
theorem x_irng {ta : TA} {R : It → Hp → Prop} (k : ta σ H fun vs H1 => ∃ j : Int, vs = [.int j] ∧ -(2 ^ 62) ≤ j ∧ j < 2 ^ 62 ∧ R (Itr 0 j.toNat) H1) : iRng1 ta σ H R := k
theorem x_izipA {ta : TA} {R : It → Hp → Prop} (k : ta σ H fun vs H1 => ∃ a b xs ys, vs = [.ref a, .ref b] ∧ ((SqL K H1 a xs ∧ SqL K H1 b ys ∧ R (Itz K a b) H1) ∨ (SqT K H1 a xs ∧ SqT K H1 b ys ∧ R (RZ.ItzT K a b) H1))) : RZ.iZipA K ta σ H R := k
theorem x_onList {a : Addr} {R : Addr → Prop} (h : SqL K H a xs) (k : R a) : ∃ a', V.ref a = .ref a' ∧ (∃ xs, SqL K H a' xs) ∧ R a' := ⟨a, rfl, ⟨xs, h⟩, k⟩
theorem x_onTup {a : Addr} {R : Addr → Prop} (h : SqT K H a xs) (k : R a) : ∃ a', V.ref a = .ref a' ∧ (∃ xs, SqT K H a' xs) ∧ R a' := ⟨a, rfl, ⟨xs, h⟩, k⟩
theorem x_onRng {j : Int} {R : Int → Prop} (h0 : -1000000000000 ≤ j) (h1 : j ≤ 1000000000000) (k : R j) : ∃ j' : Int, [V.int j] = [.int j'] ∧ -(2 ^ 62) ≤ j' ∧ j' < 2 ^ 62 ∧ R j' := ⟨j, rfl, by omega, by omega, k⟩
theorem x_onZipL {a b : Addr} {R R' : Addr → Addr → Prop} (h : SqL K H a xs) (h' : SqL K H b ys) (k : R a b) :
    ∃ a' b' xs ys, [V.ref a, V.ref b] = [.ref a', .ref b'] ∧ ((SqL K H a' xs ∧ SqL K H b' ys ∧ R a' b') ∨ (SqT K H a' xs ∧ SqT K H b' ys ∧ R' a' b')) := ⟨a, b, xs, ys, rfl, .inl ⟨h, h', k⟩⟩
theorem x_onZipT {a b : Addr} {R R' : Addr → Addr → Prop} (h : SqT K H a xs) (h' : SqT K H b ys) (k : R' a b) :
    ∃ a' b' xs ys, [V.ref a, V.ref b] = [.ref a', .ref b'] ∧ ((SqL K H a' xs ∧ SqL K H b' ys ∧ R a' b') ∨ (SqT K H a' xs ∧ SqT K H b' ys ∧ R' a' b')) := ⟨a, b, xs, ys, rfl, .inr ⟨h, h', k⟩⟩
theorem walk_zipT {a b : Addr} {n : Nat} (hn : n = min xs.length ys.length) : Walk (RZ.ItzT K a b) n (fun H => SqT K H a xs ∧ SqT K H b ys) (YPair (fun i => xs[i]?) (fun i => ys[i]?)) := by
  subst hn
  refine ⟨fun i _ hi q => ?_, fun _ q => ⟨xs, ys, q.1, q.2, by omega⟩, fun i H v H' _ q y => ?_⟩
  · have h1 : i < xs.length := by omega
    have h2 : i < ys.length := by omega
    exact ⟨xs, ys, xs[i], ys[i], q.1, q.2, by simp [h1], by simp [h2]⟩
  · obtain ⟨T, x, z, h1, h2, h3, h4, h5⟩ := y
    exact ⟨T, x, z, h1, h2, h3, h4 xs q.1, h5 ys q.2⟩
theorem x_lc {wi : TI} {tt : TT} {te : TE} {vs : List Nat} {Q : VK} (k : wi σ H fun J H1 => ∀ D, H1 D = none → ∃ W : Nat → Nat → Hp → Prop, (∃ m, W 0 m (upd H1 D (.lst []))) ∧ ∀ i m H, W i m H →
  (J.stop i H ∧ Q (.ref D) H) ∨ (J.go i H ∧ ∃ Nx : Hp → Prop, (∀ H', Nx H' → ∃ m', m' < m ∧ W (i + 1) m' H') ∧ ∀ x H', J.yld i H x H' → g x (wipe σ vs) H' fun σ2 H2 => wipe σ2 vs = wipe σ vs ∧ tt σ2 H2 fun b H3 =>
    if b = true then te σ2 H3 fun y H4 => ∃ acc, H4 D = some (.lst acc) ∧ acc.length < sizeLine ∧ Nx (upd H4 D (.lst (acc ++ [y]))) else Nx H3)) : tLc wi g tt te vs σ H Q := k
/-- what is known between a comprehension's turns: D the new list, M what the turns may change, R of the list so far -/
def LCP (M : List Addr) (H1 : Hp) (R : Nat → List V → Hp → Prop) (D : Addr) (i : Nat) (H : Hp) : Prop := ∃ acc, H D = some (.lst acc) ∧ acc.length ≤ i ∧ Ex M H1 H ∧ R i acc H
theorem lc_push {M : List Addr} {H1 H H4 : Hp} {R : Nat → List V → Hp → Prop} {D : Addr} {i : Nat} {acc : List V} {y : V} (hM : Al M H1) (stab : ∀ i acc H o, R i acc H → R i acc (upd H D o)) (hD : H1 D = none) (hi : i < 1000000) (hacc : H D = some (.lst acc)) (hl : acc.length ≤ i)
    (e : Ex M H1 H) (e4 : Ex M H H4) (r : R (i + 1) (acc ++ [y]) H4) : ∃ acc, H4 D = some (.lst acc) ∧ acc.length < sizeLine ∧ LCP M H1 R D (i + 1) (upd H4 D (.lst (acc ++ [y]))) :=
  ⟨acc, e4 D _ (hM.out hD) hacc, sz_lt (by omega), acc ++ [y], upd_same, by rw [List.length_append]; exact Nat.add_le_add_right hl 1, Ex.mut hD (e.tr e4), stab _ _ _ _ r⟩
theorem lc_skip {M : List Addr} {H1 H H3 : Hp} {R : Nat → List V → Hp → Prop} {D : Addr} {i : Nat} {acc : List V} (hM : Al M H1) (hD : H1 D = none) (hacc : H D = some (.lst acc)) (hl : acc.length ≤ i)
    (e : Ex M H1 H) (e3 : Ex M H H3) (r : R (i + 1) acc H3) : LCP M H1 R D (i + 1) H3 := ⟨acc, e3 D _ (hM.out hD) hacc, Nat.le_succ_of_le hl, e.tr e3, r⟩
theorem x_lcW {J : It} {n : Nat} {G : Hp → Prop} {Y : Nat → Hp → V → Hp → Prop} (w : Walk J n G Y) {tt : TT} {te : TE} {vs : List Nat} {H1 : Hp} {Qd : Addr → Hp → Prop} (M : List Addr) (R : Nat → List V → Hp → Prop)
    (h0 : ∀ D o, H1 D = none → R 0 [] (upd H1 D o)) (hG : ∀ H, Ex M H1 H → G H)
    (hs : ∀ D i x H H' acc, H1 D = none → i < n → H D = some (.lst acc) → acc.length ≤ i → Ex M H1 H → R i acc H → Y i H x H' → g x (wipe σ vs) H' fun σ2 H2 => wipe σ2 vs = wipe σ vs ∧ tt σ2 H2 fun b H3 =>
      if b = true then te σ2 H3 fun y H4 => ∃ acc, H4 D = some (.lst acc) ∧ acc.length < sizeLine ∧ LCP M H1 R D (i + 1) (upd H4 D (.lst (acc ++ [y]))) else LCP M H1 R D (i + 1) H3)
    (hd : ∀ D H acc, H1 D = none → H D = some (.lst acc) → acc.length ≤ n → Ex M H1 H → R n acc H → Qd D H) :
    ∀ D, H1 D = none → ∃ W : Nat → Nat → Hp → Prop, (∃ m, W 0 m (upd H1 D (.lst []))) ∧ ∀ i m H, W i m H →
      (J.stop i H ∧ Qd D H) ∨ (J.go i H ∧ ∃ Nx : Hp → Prop, (∀ H', Nx H' → ∃ m', m' < m ∧ W (i + 1) m' H') ∧ ∀ x H', J.yld i H x H' → g x (wipe σ vs) H' fun σ2 H2 => wipe σ2 vs = wipe σ vs ∧ tt σ2 H2 fun b H3 =>
        if b = true then te σ2 H3 fun y H4 => ∃ acc, H4 D = some (.lst acc) ∧ acc.length < sizeLine ∧ Nx (upd H4 D (.lst (acc ++ [y]))) else Nx H3) := by
  intro D hD
  refine lc_it w (LCP M H1 R D) ⟨[], upd_same, Nat.le_refl _, Ex.new hD, h0 D _ hD⟩ (fun i H _ ⟨acc, _, _, e, _⟩ => hG H e) ?_ ?_
  · rintro i x H H' hi ⟨acc, hacc, hl, e, r⟩ y
    exact hs D i x H H' acc hD hi hacc hl e r y
  · rintro H ⟨acc, hacc, hl, e, r⟩
    exact hd D H acc hD hacc hl e r
end

/-! ### data -/
inductive DV where
  | non | bl (b : Bool) | int (i : Int) | str (x : Str) | lst (ds : List DV) | tup (ds : List DV)
mutual
inductive Dat (K : PySem.W.Frag) (M : List Addr) (H : Hp) : V → DV → Prop
  | non : Dat K M H .non .non
  | bl (b : Bool) : Dat K M H (.bl b) (.bl b)
  | int (i : Int) : Dat K M H (.int i) (.int i)
  | str (x : Str) : Dat K M H (.str x) (.str x)
  | lst {a : Addr} {xs : List V} {ds : List DV} : SqL K H a xs → a ∉ M → DatL K M H xs ds → Dat K M H (.ref a) (.lst ds)
  | tup {a : Addr} {xs : List V} {ds : List DV} : SqT K H a xs → a ∉ M → DatL K M H xs ds → Dat K M H (.ref a) (.tup ds)
inductive DatL (K : PySem.W.Frag) (M : List Addr) (H : Hp) : List V → List DV → Prop
  | nil : DatL K M H [] []
  | cons {v : V} {vs : List V} {d : DV} {ds : List DV} : Dat K M H v d → DatL K M H vs ds → DatL K M H (v :: vs) (d :: ds)
end
section
variable {K : PySem.W.Frag} {M M' : List Addr} {H H' : Hp}
mutual
theorem Dat.ex (e : Ex M' H H') (s : ∀ x ∈ M', x ∈ M) : ∀ {v : V} {d : DV}, Dat K M H v d → Dat K M H' v d
  | _, _, .non => .non
  | _, _, .bl b => .bl b
  | _, _, .int i => .int i
  | _, _, .str x => .str x
  | _, _, .lst h n l => .lst (sql_ex e (fun z => n (s _ z)) h) n (DatL.ex e s l)
  | _, _, .tup h n l => .tup (sqt_ex e (fun z => n (s _ z)) h) n (DatL.ex e s l)
theorem DatL.ex (e : Ex M' H H') (s : ∀ x ∈ M', x ∈ M) : ∀ {vs : List V} {ds : List DV}, DatL K M H vs ds → DatL K M H' vs ds
  | _, _, .nil => .nil
  | _, _, .cons h l => .cons (Dat.ex e s h) (DatL.ex e s l)
end
mutual
theorem Dat.sub (s : ∀ x ∈ M', x ∈ M) : ∀ {v : V} {d : DV}, Dat K M H v d → Dat K M' H v d
  | _, _, .non => .non
  | _, _, .bl b => .bl b
  | _, _, .int i => .int i
  | _, _, .str x => .str x
  | _, _, .lst h n l => .lst h (fun z => n (s _ z)) (DatL.sub s l)
  | _, _, .tup h n l => .tup h (fun z => n (s _ z)) (DatL.sub s l)
theorem DatL.sub (s : ∀ x ∈ M', x ∈ M) : ∀ {vs : List V} {ds : List DV}, DatL K M H vs ds → DatL K M' H vs ds
  | _, _, .nil => .nil
  | _, _, .cons h l => .cons (Dat.sub s h) (DatL.sub s l)
end
theorem DatL.length : ∀ {vs : List V} {ds : List DV}, DatL K M H vs ds → vs.length = ds.length
  | _, _, .nil => rfl
  | _, _, .cons _ l => congrArg Nat.succ (DatL.length l)
theorem DatL.get : ∀ {vs : List V} {ds : List DV} {i : Nat} {v : V}, DatL K M H vs ds → vs[i]? = some v → ∃ d, ds[i]? = some d ∧ Dat K M H v d
  | _, _, i, _, .nil, e => by simp at e
  | _, _, 0, _, .cons h _, e => by
    simp at e
    subst e
    exact ⟨_, rfl, h⟩
  | _, _, i + 1, _, .cons _ l, e => by
    obtain ⟨d, h1, h2⟩ := DatL.get (i := i) l (by simpa using e)
    exact ⟨d, by simpa using h1, h2⟩
theorem DatL.at : ∀ {vs : List V} {ds : List DV} {i : Nat} {d : DV}, DatL K M H vs ds → ds[i]? = some d → ∃ v, vs[i]? = some v ∧ Dat K M H v d
  | _, _, i, _, .nil, e => by simp at e
  | _, _, 0, _, .cons h _, e => by
    simp at e
    subst e
    exact ⟨_, rfl, h⟩
  | _, _, i + 1, _, .cons _ l, e => by
    obtain ⟨d, h1, h2⟩ := DatL.at (i := i) l (by simpa using e)
    exact ⟨d, by simpa using h1, h2⟩
theorem DatL.ints : ∀ (ns : List Int), DatL K M H (ns.map V.int) (ns.map DV.int)
  | [] => .nil
  | n :: ns => .cons (.int n) (DatL.ints ns)
theorem DatL.app : ∀ {vs vs' : List V} {ds ds' : List DV}, DatL K M H vs ds → DatL K M H vs' ds' → DatL K M H (vs ++ vs') (ds ++ ds')
  | _, _, _, _, .nil, h => h
  | _, _, _, _, .cons a l, h => .cons a (DatL.app l h)
end
/-- how deep a datum is nested -/
inductive Deep : Nat → DV → Prop
  | non {n} : Deep n .non
  | bl {n} (b : Bool) : Deep n (.bl b)
  | int {n} (i : Int) : Deep n (.int i)
  | str {n} (x : Str) : Deep n (.str x)
  | lst {n} {ds : List DV} : ds.length < 1000000 → (∀ d ∈ ds, Deep n d) → Deep (n + 1) (.lst ds)
  | tup {n} {ds : List DV} : ds.length < 1000000 → (∀ d ∈ ds, Deep n d) → Deep (n + 1) (.tup ds)
/-- its type -/
def DV.ty : DV → String
  | .non => "NoneType" | .bl _ => "bool" | .int _ => "int" | .str _ => "str" | .lst _ => "list" | .tup _ => "tuple"
theorem ty_sqL {K : PySem.W.Frag} {H : Hp} {a : Addr} {xs : List V} (h : SqL K H a xs) : TyX K H (.ref a) (.type "list") := by
  rcases h with (h | ⟨o, h⟩) | ⟨o, its, n, h, hc, _⟩
  · exact .base (.lst h)
  · exact .base (.frz h)
  · exact .kList h hc
theorem ty_sqT {K : PySem.W.Frag} {H : Hp} {a : Addr} {xs : List V} (h : SqT K H a xs) : TyX K H (.ref a) (.type "tuple") := by
  rcases h with (h | ⟨o, h⟩) | ⟨o, its, n, h, hc, _⟩
  · exact .base (.tup h)
  · exact .fTuple h
  · exact .kTuple h hc
theorem Dat.ty {K : PySem.W.Frag} {M : List Addr} {H : Hp} {v : V} {d : DV} (h : Dat K M H v d) : TyX K H v (.type d.ty) := by
  cases h with
  | non => exact .base .non
  | bl b => exact .base (.bl b)
  | int i => exact .base (.int i)
  | str x => exact .base (.str x)
  | lst h _ _ => exact ty_sqL h
  | tup h _ _ => exact ty_sqT h
theorem x_isi {K : PySem.W.Frag} {H : Hp} {Q : VK} {x : V} {a b : String} {r : Bool} (h : TyX K H x (.type a)) (e : kitB a b = some r) (k : Q (.bl r) H) : rIsi K [x, .ty b] H Q := ⟨x, .ty b, .type a, .type b, r, rfl, .ty b, h, kit_ty e, k⟩
theorem kitLT {K : PySem.W.Frag} {a : String} {r1 r2 : Bool} (h1 : kitB a "list" = some r1) (h2 : kitB a "tuple" = some r2) : PySem.W.kitAny K (.type a) [.type "list", .type "tuple"] = some (r1 || r2) := by
  refine kitAny_cons (b := r1) (kit_ty h1) (fun e => ?_) (fun e => by rw [e]; rfl)
  rw [e]
  refine kitAny_cons (b := r2) (kit_ty h2) (fun e => ?_) (fun e => by rw [e]; rfl)
  rw [e]
  exact kitAny_nil
theorem x_isiLT {K : PySem.W.Frag} {H : Hp} {Q : VK} {x : V} {tp : Addr} {a : String} {r1 r2 : Bool} (h : TyX K H x (.type a)) (ht : H tp = some (.tup [.ty "list", .ty "tuple"])) (e1 : kitB a "list" = some r1) (e2 : kitB a "tuple" = some r2) (k : Q (.bl (r1 || r2)) H) :
    rIsiT K [x, .ref tp] H Q := ⟨x, tp, _, .type a, [.type "list", .type "tuple"], r1 || r2, rfl, ht, .cons (.ty _) (.cons (.ty _) .nil), h, kitLT e1 e2, k⟩
theorem fnOk_false {P : Program} {w : World} {K : PySem.W.Frag} {mg : Str → Option Value} {base : Heap} {CX : CXT} {k : Nat} {f : Addr} {fd : FuncData} {ps : List Str} : FnOk P w K mg base CX k f fd ps (fun _ _ _ _ => False) :=
  ⟨fun _ _ _ _ h => h.elim, fun _ _ _ _ _ _ _ _ _ _ _ _ _ h => h.elim⟩
theorem x_yes {σ : L2.St} {H : Hp} {Q : Bool → Hp → Prop} (k : Q true H) : tYes σ H Q := k
theorem x_all {K : PySem.W.Frag} {H : Hp} {Q : VK} {a : Addr} {bs : List Bool} (h : SqL K H a (bs.map V.bl)) (k : Q (.bl (bs.all id)) H) : rAll K [.ref a] H Q := ⟨a, bs, rfl, h, k⟩
end BF
/-! ## isinstance of plain values against plain types, and whether two data are the same -/
namespace BF
open PySem PySem.Spec PyProof.Rows L2
theorem kb_NoneType_list : kitB "NoneType" "list" = some false := by decide +kernel
theorem kb_NoneType_tuple : kitB "NoneType" "tuple" = some false := by decide +kernel
theorem kb_NoneType_bool : kitB "NoneType" "bool" = some false := by decide +kernel
theorem kb_NoneType_str : kitB "NoneType" "str" = some false := by decide +kernel
theorem kb_NoneType_int : kitB "NoneType" "int" = some false := by decide +kernel
theorem kb_bool_list : kitB "bool" "list" = some false := by decide +kernel
theorem kb_bool_tuple : kitB "bool" "tuple" = some false := by decide +kernel
theorem kb_bool_bool : kitB "bool" "bool" = some true := by decide +kernel
theorem kb_bool_str : kitB "bool" "str" = some false := by decide +kernel
theorem kb_bool_int : kitB "bool" "int" = some true := by decide +kernel
theorem kb_int_list : kitB "int" "list" = some false := by decide +kernel
theorem kb_int_tuple : kitB "int" "tuple" = some false := by decide +kernel
theorem kb_int_bool : kitB "int" "bool" = some false := by decide +kernel
theorem kb_int_str : kitB "int" "str" = some false := by decide +kernel
theorem kb_int_int : kitB "int" "int" = some true := by decide +kernel
theorem kb_str_list : kitB "str" "list" = some false := by decide +kernel
theorem kb_str_tuple : kitB "str" "tuple" = some false := by decide +kernel
theorem kb_str_bool : kitB "str" "bool" = some false := by decide +kernel
theorem kb_str_str : kitB "str" "str" = some true := by decide +kernel
theorem kb_str_int : kitB "str" "int" = some false := by decide +kernel
theorem kb_list_list : kitB "list" "list" = some true := by decide +kernel
theorem kb_list_tuple : kitB "list" "tuple" = some false := by decide +kernel
theorem kb_list_bool : kitB "list" "bool" = some false := by decide +kernel
theorem kb_list_str : kitB "list" "str" = some false := by decide +kernel
theorem kb_list_int : kitB "list" "int" = some false := by decide +kernel
theorem kb_tuple_list : kitB "tuple" "list" = some false := by decide +kernel
theorem kb_tuple_tuple : kitB "tuple" "tuple" = some true := by decide +kernel
theorem kb_tuple_bool : kitB "tuple" "bool" = some false := by decide +kernel
theorem kb_tuple_str : kitB "tuple" "str" = some false := by decide +kernel
theorem kb_tuple_int : kitB "tuple" "int" = some false := by decide +kernel
section
variable {X : Cx}
theorem op_addUK (K : PySem.W.Frag) (h : X.K = K := by rfl) : OpR X (binaryOp .Add) (rAddU K) := h ▸ op_addU
theorem ix_LTK (K : PySem.W.Frag) (h : X.K = K := by rfl) : IxR X (rIxLT K) := h ▸ ix_LT
theorem call_lenLTK (K : PySem.W.Frag) (h : X.K = K := by rfl) : CallR X (.builtin "len") (rLenLT K) := h ▸ call_lenLT
theorem call_listLTK (K : PySem.W.Frag) (h : X.K = K := by rfl) : CallR X (.type "list") (rListLT K) := h ▸ call_listLT
theorem call_tupLTK (K : PySem.W.Frag) (h : X.K = K := by rfl) : CallR X (.type "tuple") (rTupLT K) := h ▸ call_tupLT
theorem call_isiK' (K : PySem.W.Frag) (h : X.K = K := by rfl) : CallR X (.builtin "isinstance") (rIsi K) := h ▸ call_isi
theorem call_isiTK (K : PySem.W.Frag) (h : X.K = K := by rfl) : CallR X (.builtin "isinstance") (rIsiT K) := h ▸ call_isiT
theorem op_inK (K : PySem.W.Frag) (h : X.K = K := by rfl) : OpR X (compareOp .In) (rIn K false) := h ▸ op_in_seq
theorem op_notInK (K : PySem.W.Frag) (h : X.K = K := by rfl) : OpR X (compareOp .NotIn) (rIn K true) := h ▸ op_notIn_seq
theorem op_eqDK (K : PySem.W.Frag) (hu : X.A.units + 64 < cLine) (h : X.K = K := by rfl) : OpR X (compareOp .Eq) (rEqD K) := h ▸ op_eqD hu
theorem op_neDK (K : PySem.W.Frag) (hu : X.A.units + 64 < cLine) (h : X.K = K := by rfl) : OpR X (compareOp .NotEq) (rNeD K) := h ▸ op_neD hu
theorem cr_allK (K : PySem.W.Frag) (hc : X.calm = true := by rfl) (h : X.K = K := by rfl) : CallR X (.builtin "all") (rAll K) := h ▸ cr_all hc
theorem sl_listK (K : PySem.W.Frag) (h : X.K = K := by rfl) : SlR X (rSlL K) := h ▸ sl_list
theorem pe_fldK (K : PySem.W.Frag) {o : Expr} {f : Str} {ta : TE} {pos : Pos} (he : PE X o ta) (hb : attributeBase o f X.env (eval o X.env) = eval o X.env := by rfl) (h : X.K = K := by rfl) : PE X (.Attribute o f pos) (tFld K ta f) := h ▸ pe_fld he hb
end
/-! ### new tuples and lists, the heap behind them told by what it keeps -/
section
variable {X : Cx} {es : List Expr} {t : TA} {pos : Pos}
def tW (t : TA) : TA := fun σ H Q => ∃ P : List V → Hp → Prop, t σ H P ∧ ∀ xs H1, P xs H1 → Q xs H1
theorem pa_weak (h : PA X es t) : PA X es (tW t) := ⟨fun pos pins s σ H Q I ⟨P, hp, k⟩ => thn (h.run pos pins s σ H P I hp) fun us s1 ⟨vs, H1, I1, r, q⟩ => ⟨vs, H1, I1, r, k vs H1 q⟩⟩
theorem PE.imp {e : Expr} {t t' : TE} (h : PE X e t) (i : ∀ σ H Q, t' σ H Q → t σ H Q) : PE X e t' := ⟨fun pins s σ H Q I q => h.run pins s σ H Q I (i σ H Q q)⟩
def tTupE (t : TA) : TE := fun σ H Q => t σ H fun xs H1 => xs.length ≤ 1000000 ∧ ∀ p H2, H1 p = none → Ex [] H1 H2 → H2 p = some (.tup xs) → Q (.ref p) H2
def tLstE (t : TA) : TE := fun σ H Q => t σ H fun xs H1 => xs.length ≤ 1000000 ∧ ∀ p H2, H1 p = none → Ex [] H1 H2 → H2 p = some (.lst xs) → Q (.ref p) H2
theorem pe_tupE {x1} (h : PA X es t) : PE X (.Tuple es x1 pos) (tTupE t) := PE.imp (pe_tup (pa_weak h)) fun σ H Q q => ⟨_, q, fun xs H1 ⟨l, k⟩ => ⟨sz_of l, fun p hp => k p _ hp (Ex.new hp) upd_same⟩⟩
theorem pe_lstE (h : PA X es t) : PE X (.List es pos) (tLstE t) := PE.imp (pe_lst (pa_weak h)) fun σ H Q q => ⟨_, q, fun xs H1 ⟨l, k⟩ => ⟨sz_of l, fun p hp => k p _ hp (Ex.new hp) upd_same⟩⟩
theorem x_tupE {σ : L2.St} {H : Hp} {Q : VK} (k : t σ H fun xs H1 => xs.length ≤ 1000000 ∧ ∀ p H2, H1 p = none → Ex [] H1 H2 → H2 p = some (.tup xs) → Q (.ref p) H2) : tTupE t σ H Q := k
theorem x_lstE {σ : L2.St} {H : Hp} {Q : VK} (k : t σ H fun xs H1 => xs.length ≤ 1000000 ∧ ∀ p H2, H1 p = none → Ex [] H1 H2 → H2 p = some (.lst xs) → Q (.ref p) H2) : tLstE t σ H Q := k
theorem x_len1 {xs : List V} {P : Prop} (h : xs.length ≤ 1000000) (k : P) : xs.length ≤ 1000000 ∧ P := ⟨h, k⟩
end
end BF
/-! ## Objects: fields, making, dead branches, membership, wide numbers -/
namespace BF
open PySem PySem.Spec PyProof.Rows L2
section
variable {X : Cx} {CX : CXT} {k : Nat} {f C : Addr} {fd : FuncData} {ps : List Str} {sp : Sp} {dvs : List V} {ds : List Value} {E : XK} {x : Str} {p pos : Pos} {e : Expr} {es : List Expr} {t : TA}
/-- a statement that is never reached -/
theorem ps_dead {s : Stmt} : PS X s (fun _ _ _ => False) := ⟨fun _ _ _ _ _ _ h => h.elim⟩
def tMakeE (C : Addr) (sp : Sp) (dvs : List V) (E : XK) (t : TA) : TE := fun σ H Q => t σ H fun vs H1 => ∀ x dx H', H1 x = none → Ex [] H1 H' → H' x = some (.ins C dx []) → sp (.ref x :: (vs ++ dvs)) H' (fun v H2 => v = .non ∧ Q (.ref x) H2) E
theorem pe_makeE (M : Mk X.K C f) (F : FnOk X.prog X.w X.K X.mg X.base CX k f fd ps sp) (hr : Room (k + 1) X.A) (hg : Gl X x) (hm : X.mg x = some (.ref C)) (hb : Binds X.K fd ps ds) (hd : Vals dvs ds) (hx : Passes CX X E)
    (ha : PA X (e :: es) t) (hdb : (x == ("__debug__" : Str)) = false := by decide) (he : starEach (e :: es) X.env = (false, eval e X.env) :: starEach es X.env := by rfl) (hpl : (backTo pos (starEach es X.env)).any (·.1) = false := by rfl) :
    PE X (.Call (.Name x p) (e :: es) [] pos) (tMakeE C sp dvs E t) :=
  PE.imp (pe_make M F hr hg hm hb hd hx (pa_weak ha) hdb he hpl) fun σ H Q q => ⟨_, q, fun xs H1 k x dx n1 n2 ne => k x dx _ n1 ((Ex.new n2).tr (fun a o _ h => by
    by_cases z : a = x
    · subst z
      rw [upd_ne (Ne.symm ne), n1] at h
      cases h
    · rw [upd_ne z]; exact h)) upd_same⟩
theorem pe_weak {e : Expr} {t : TE} (h : PE X e t) : PE X e (fun σ H Q => ∃ P : V → Hp → Prop, t σ H P ∧ ∀ v H1, P v H1 → Q v H1) := ⟨fun pins s σ H Q I ⟨P, hp, k⟩ => thn (h.run pins s σ H P I hp) fun u s1 ⟨v, H1, I1, r, q⟩ => ⟨v, H1, I1, r, k v H1 q⟩⟩
theorem PS.imp' {s : Stmt} {t t' : TS} (h : PS X s t) (i : ∀ D σ H, t' D σ H → t D σ H) : PS X s t' := ⟨fun pins s σ H D I q => h.run pins s σ H D I (i D σ H q)⟩
theorem pt_weak {e : Expr} {t : L2.TT} (h : PT X e t) : PT X e (fun σ H Q => ∃ P : Bool → Hp → Prop, t σ H P ∧ ∀ v H1, P v H1 → Q v H1) := ⟨fun pins s σ H Q I ⟨P, hp, k⟩ => thn (h.run pins s σ H P I hp) fun b s1 ⟨H1, I1, q⟩ => ⟨H1, I1, k b H1 q⟩⟩
theorem ps_whileE {c : Expr} {body : List Stmt} {tc : L2.TT} {tb : TS} {pos : Pos} (hp : PassesOwn (model X.prog X.w) X.A X.env X.xe) (hc : PT X c tc) (hb : PSs X body tb) : PS X (.While c body [] pos) (tWhile (fun σ H Q => ∃ P : Bool → Hp → Prop, tc σ H P ∧ ∀ v H1, P v H1 → Q v H1) tb) := ps_while hp (pt_weak hc) hb
theorem x_while {c : L2.TT} {tb : TS} {D : Ends} {σ : L2.St} {H : Hp} (Pv : L2.St → Hp → Prop) (μ : L2.St → Hp → Nat) (h0 : Pv σ H)
    (hs : ∀ σ H, Pv σ H → c σ H fun b H1 => if b = true then tb { D with nx := fun σ' H' => Pv σ' H' ∧ μ σ' H' < μ σ H, ct := fun σ' H' => Pv σ' H' ∧ μ σ' H' < μ σ H, bk := D.nx } σ H1 else D.nx σ H1) : tWhile (fun σ H Q => ∃ P : Bool → Hp → Prop, c σ H P ∧ ∀ v H1, P v H1 → Q v H1) tb D σ H :=
  while_by Pv μ h0 (fun σ H h => ⟨_, hs σ H h, fun _ _ q => q⟩) (fun σ H Q Q' m ⟨P, q, k⟩ => ⟨P, q, fun b H1 z => m _ _ (k b H1 z)⟩)
def sFldE (K : PySem.W.Frag) (ta tv : TE) (f : Str) : TS := fun D σ H => tv σ H fun y H1 => ta σ H1 fun x H2 => ∃ a C dx fs gs, x = .ref a ∧ H2 a = some (.ins C dx fs) ∧ Cls K C ∧ NoAttr K C f ∧ fs.length < 1000 ∧ putF f y fs = gs ∧
  ∀ H', Ex [a] H2 H' → H' a = some (.ins C dx gs) → D.nx σ H'
theorem ps_fldE (K : PySem.W.Frag) {o value : Expr} {f : Str} {pos pos' : Pos} {ta tv : TE} (ha : PE X o ta) (hv : PE X value tv) (hs : swapsWith value (some (.Attribute o f pos')) pos.line X.env = pure false := by rfl) (h : X.K = K := by rfl) : PS X (.Assign [.Attribute o f pos'] value pos) (sFldE K ta tv f) :=
  h ▸ PS.imp' (ps_fld (pe_weak ha) (pe_weak hv) hs) fun D σ H q => ⟨_, q, fun y H1 q1 => ⟨_, q1, fun x H2 ⟨a, C, dx, fs, gs, e1, e2, c, n, l, e3, k⟩ => ⟨a, C, dx, fs, e1, e2, c, n, l, by subst e3; exact k _ (Ex.wr (by simp) (Ex.refl H2)) upd_same⟩⟩⟩
end
section
variable {K : PySem.W.Frag} {σ : L2.St} {H : Hp} {Q : VK} {C : Addr} {f : Str} {ta tv : TE} {D : Ends}
theorem x_make {sp : Sp} {dvs : List V} {E : XK} {t : TA} (k : t σ H fun vs H1 => ∀ x dx H', H1 x = none → Ex [] H1 H' → H' x = some (.ins C dx []) → sp (.ref x :: (vs ++ dvs)) H' (fun v H2 => v = .non ∧ Q (.ref x) H2) E) : tMakeE C sp dvs E t σ H Q := k
theorem x_fld (k : ta σ H fun x H1 => ∃ a C dx fs v, x = .ref a ∧ H1 a = some (.ins C dx fs) ∧ Cls K C ∧ NoAttr K C f ∧ fs.lookup f = some v ∧ Q v H1) : tFld K ta f σ H Q := k
theorem x_fldR {a dx : Addr} {fs : List (Str × V)} {v : V} {P : V → Prop} (h : H a = some (.ins C dx fs)) (c : Cls K C) (n : NoAttr K C f) (l : fs.lookup f = some v) (k : P v) : ∃ a' C dx fs v, V.ref a = .ref a' ∧ H a' = some (.ins C dx fs) ∧ Cls K C ∧ NoAttr K C f ∧ fs.lookup f = some v ∧ P v := ⟨a, C, dx, fs, v, rfl, h, c, n, l, k⟩
theorem x_sfld (k : tv σ H fun y H1 => ta σ H1 fun x H2 => ∃ a C dx fs gs, x = .ref a ∧ H2 a = some (.ins C dx fs) ∧ Cls K C ∧ NoAttr K C f ∧ fs.length < 1000 ∧ putF f y fs = gs ∧ ∀ H', Ex [a] H2 H' → H' a = some (.ins C dx gs) → D.nx σ H') : sFldE K ta tv f D σ H := k
theorem x_sfldR {a dx : Addr} {fs gs : List (Str × V)} {y : V} {P : Hp → Prop} (h : H a = some (.ins C dx fs)) (c : Cls K C) (n : NoAttr K C f) (l : fs.length < 1000) (e : putF f y fs = gs) (k : ∀ H', Ex [a] H H' → H' a = some (.ins C dx gs) → P H') :
    ∃ a' C dx fs gs, V.ref a = .ref a' ∧ H a' = some (.ins C dx fs) ∧ Cls K C ∧ NoAttr K C f ∧ fs.length < 1000 ∧ putF f y fs = gs ∧ ∀ H', Ex [a'] H H' → H' a' = some (.ins C dx gs) → P H' := ⟨a, C, dx, fs, gs, rfl, h, c, n, l, e, k⟩
theorem x_meth {m : Str} {sp : Sp} {dvs : List V} {E : XK} {t : TA} (k : ta σ H fun x H1 => ∃ a dx fs, x = .ref a ∧ H1 a = some (.ins C dx fs) ∧ fs.lookup m = none ∧ t σ H1 fun vs H2 => sp (x :: (vs ++ dvs)) H2 Q E) : tMeth C m sp dvs E ta t σ H Q := k
theorem x_methR {a dx : Addr} {m : Str} {fs : List (Str × V)} {P : Prop} (h : H a = some (.ins C dx fs)) (l : fs.lookup m = none) (k : P) : ∃ a' dx fs, V.ref a = .ref a' ∧ H a' = some (.ins C dx fs) ∧ fs.lookup m = none ∧ P := ⟨a, dx, fs, rfl, h, l, k⟩
theorem x_aug {i : Nat} {te : TE} {ti : TIp} {x : V} (h : σ[i]? = some (some x)) (k : te σ H fun y H1 => ti x y H1 fun z H2 => D.nx (σ.set i (some z)) H2) : tAug i te ti D σ H := ⟨x, h, k⟩
theorem x_ipI {f : Int → Int → Int} {i j : Int} (k : Q (.int (f i j)) H) : ipI f (.int i) (.int j) H Q := ⟨i, j, rfl, rfl, k⟩
theorem x_gcd {i j : Int} (k : Q (.int ((Nat.gcd i.natAbs j.natAbs : Nat) : Int)) H) : rGcd [.int i, .int j] H Q := ⟨i, j, rfl, k⟩
theorem inV_ints {ns : List Int} {i : Int} : inV (.int i) (ns.map V.int) = ns.contains i := by
  unfold inV
  rw [List.any_map]
  induction ns with
  | nil => rfl
  | cons n ns ih =>
    rw [List.any_cons, List.contains_cons, ih]
    congr 1
    show (n == i) = (i == n)
    exact Bool.beq_comm
theorem x_inT {ns : List Int} {a : Addr} {i : Int} {neg : Bool} (h : SqT K H a (ns.map V.int)) (k : Q (.bl (if neg then !ns.contains i else ns.contains i)) H) : rIn K neg (.int i) (.ref a) H Q := ⟨a, _, rfl, .inr h, rfl, by rw [List.all_map]; exact List.all_eq_true.mpr fun _ _ => rfl, by rw [inV_ints]; exact k⟩
end
theorem Ex.fresh {H H1 H2 : Hp} {x : Addr} (e1 : Ex [] H H1) (hx : H x = none) (e2 : Ex [x] H1 H2) : Ex [] H H2 := fun a o _ h => e2 a o (by
  intro z
  rw [List.mem_singleton] at z
  subst z
  rw [hx] at h
  cases h) (e1 a o (by simp) h)
theorem Ex.skip {M : List Addr} {H H1 H2 : Hp} {x : Addr} (e1 : Ex M H H1) (hx : H x = none) (e2 : Ex [x] H1 H2) : Ex M H H2 := fun a o m h => e2 a o (by
  intro z
  rw [List.mem_singleton] at z
  subst z
  rw [hx] at h
  cases h) (e1 a o m h)
theorem Ex.skip2 {b : Addr} {H H1 H2 : Hp} {x : Addr} (e1 : Ex [b] H H1) (hx : H x = none) (e2 : Ex [b, x] H1 H2) : Ex [b] H H2 := fun a o m h => e2 a o (by
  intro z
  rcases List.mem_cons.mp z with z | z
  · exact m (by rw [z]; exact List.mem_singleton.mpr rfl)
  · rw [List.mem_singleton] at z
    subst z
    rw [hx] at h
    cases h) (e1 a o m h)
theorem putF_nil {f : Str} {v : V} : putF f v [] = [(f, v)] := rfl
theorem putF_eq {f : Str} {v x : V} {r : List (Str × V)} : putF f v ((f, x) :: r) = (f, v) :: r := if_pos rfl
theorem putF_ne {f g : Str} {v x : V} {r s : List (Str × V)} (h : g ≠ f) (k : putF f v r = s) : putF f v ((g, x) :: r) = (g, x) :: s := by
  rw [← k]
  exact if_neg h
theorem natCast_toNat {i : Int} (h : 0 ≤ i) : ∃ n : Nat, i = n := ⟨i.toNat, by omega⟩
end BF
/-! ## Exceptions with fields -/
namespace BF
open PySem PySem.Spec PyProof.Rows L2
section
variable {X : Cx} {o e : Expr} {es : List Expr} {to te : TE} {ta : TA} {f : Str} {p p' pos : Pos}
def tOstE (K : PySem.W.Frag) (f : Str) (to te : TE) : TS := fun D σ H => te σ H fun y H1 => to σ H1 fun x H2 => ∃ a C : Addr, x = .ref a ∧ OexC K C ∧ PySem.W.findIn K (.ref C) f = some none ∧
  ((H2 a = some (exo a C none) ∧ ∀ dx H', H2 dx = none → dx ≠ a → Ex [a] H2 H' → H' a = some (exo a C (some dx)) → H' dx = some (exd dx [(f, y)]) → D.nx σ H') ∨
    ∃ (dx : Addr) (fs : List (Str × V)), H2 a = some (exo a C (some dx)) ∧ H2 dx = some (exd dx fs) ∧ fs.length ≤ 900 ∧ dx ≠ a ∧ ∀ H', Ex [dx] H2 H' → H' a = some (exo a C (some dx)) → H' dx = some (exd dx ((f, y) :: fs)) → D.nx σ H')
theorem ps_ostE (K : PySem.W.Frag) (ho : PE X o to) (he : PE X e te) (hs : swapsWith e (some (.Attribute o f p')) pos.line X.env = pure false := by rfl) (h : X.K = K := by rfl) : PS X (.Assign [.Attribute o f p'] e pos) (tOstE K f to te) := by
  subst h
  refine PS.imp' (ps_ost (pe_weak ho) (pe_weak he) hs) fun D σ H q => ⟨_, q, fun y H1 q1 => ⟨_, q1, fun x H2 ⟨a, C, e1, c, n, q2⟩ => ⟨a, C, e1, c, n, ?_⟩⟩⟩
  rcases q2 with ⟨ha, k⟩ | ⟨dx, fs, ha, hd, hl, ne, k⟩
  · exact .inl ⟨ha, fun dx n1 ne => k dx _ n1 ne (Ex.wr (by simp) (Ex.new n1)) upd_same (by rw [upd_ne ne]; exact upd_same)⟩
  · exact .inr ⟨dx, fs, ha, hd, hl, k _ (Ex.wr (by simp) (Ex.refl _)) (by rw [upd_ne (Ne.symm ne)]; exact ha) upd_same⟩
/-- what an exception's __init__ of n values keeps: its fields fs -/
def spEx (C : Addr) (n : Nat) (fs : List V → List (Str × V)) : Sp := fun vs H Q _ => ∃ a ws, vs = .ref a :: ws ∧ ws.length = n ∧ H a = some (exo a C none) ∧ ∀ d H', H d = none → d ≠ a → Ex [a] H H' → H' a = some (exo a C (some d)) → H' d = some (exd d (fs ws)) → Q .non H'
/-- a raised exception of the class at C with the fields fs, in what was H -/
def RaisedX (C : Addr) (fs : List (Str × V)) (H : Hp) (Q : XK) : Prop := ∀ d H', H d = none → Ex [] H H' → H' d = some (.xd fs) → Q (.ref C) (some d) H'
def tRs (C : Addr) (n : Nat) (fs : List V → List (Str × V)) (ta : TA) : L2.St → Hp → XK → Prop := fun σ H Q => ta σ H fun vs H1 => vs.length = n ∧ RaisedX C (fs vs) H1 Q
theorem x_rs {C : Addr} {n : Nat} {fs : List V → List (Str × V)} {σ : L2.St} {H : Hp} {Q : XK} (k : ta σ H fun vs H1 => vs.length = n ∧ RaisedX C (fs vs) H1 Q) : tRs C n fs ta σ H Q := k
theorem ex_fin {H1 H2 : Hp} {a d C : Addr} {fs : List (Str × V)} (n1 : H1 a = none) (n2 : H1 d = none) (ne : d ≠ a) (e : Ex [a] (upd H1 a (exo a C none)) H2) : Ex [] H1 (upd (del H2 a) d (.xd fs)) := fun b o _ h => by
  have b1 : b ≠ a := fun z => by subst z; rw [n1] at h; cases h
  have b2 : b ≠ d := fun z => by subst z; rw [n2] at h; cases h
  rw [upd_ne b2]
  have h3 := e b o (by simpa using b1) (by rw [upd_ne b1]; exact h)
  unfold del
  rw [if_neg b1]
  exact h3
section
variable {CX : CXT} {x : Str} {C fI : Addr} {k n : Nat} {fd : FuncData} {ps : List Str} {fs : List V → List (Str × V)}
theorem ex_mk {vs : List V} {H1 : Hp} {Q : XK} (hn : n ≤ 900) (hl : vs.length = n) (q : RaisedX C (fs vs) H1 Q) : vs.length ≤ 1000 ∧ ∀ a, H1 a = none → spEx C n fs (.ref a :: (vs ++ [])) (upd H1 a (exo a C none))
    (fun v H2 => v = .non ∧ ∃ (d : Addr) (gs : List (Str × V)), H2 a = some (exo a C (some d)) ∧ H2 d = some (exd d gs) ∧ H1 d = none ∧ Q (.ref C) (some d) (upd (del H2 a) d (.xd gs))) (fun _ _ _ => False) := by
  refine ⟨by omega, fun a ha => ⟨a, vs, by rw [List.append_nil], hl, upd_same, fun d H2 hd ne e h1 h2 => ⟨rfl, d, fs vs, h1, h2, ?_, ?_⟩⟩⟩
  · rw [upd_ne ne] at hd
    exact hd
  · rw [upd_ne ne] at hd
    exact q d _ hd (ex_fin ha hd ne e) upd_same
theorem pmk_ex (hn : n ≤ 900) (T : OexC X.K C) (iC : PySem.W.findIn X.K (.ref C) "__init__" = some (some (.ref fI))) (tI : PySem.W.typeIn X.K (.ref fI) = some (.type "function"))
    (F1 : FnOk X.prog X.w X.K X.mg X.base CX k fI fd ps (spEx C n fs)) (hr : Room (k + 1) X.A) (hb : Binds X.K fd ps []) (hx : Passes CX X (fun _ _ _ => False)) (hg : Gl X x) (hm : X.mg x = some (.ref C)) (ha : PA X (e :: es) ta)
    (hdb : (x == ("__debug__" : Str)) = false := by decide) (he : starEach (e :: es) X.env = (false, eval e X.env) :: starEach es X.env := by rfl) (hpl : (backTo pos (starEach es X.env)).any (·.1) = false := by rfl) :
    PMk X (.Call (.Name x p) (e :: es) [] pos) (tRs C n fs ta) := fun pins s σ H Q I h =>
  pmk_oex (dvs := []) T iC tI F1 hr hb .nil hx hg hm (pa_weak ha) hdb he hpl pins s σ H Q I ⟨_, h, fun vs H1 ⟨hl, q⟩ => ex_mk hn hl q⟩
theorem pmk_ex0 (T : OexC X.K C) (iC : PySem.W.findIn X.K (.ref C) "__init__" = some (some (.ref fI))) (tI : PySem.W.typeIn X.K (.ref fI) = some (.type "function"))
    (F1 : FnOk X.prog X.w X.K X.mg X.base CX k fI fd ps (spEx C 0 fs)) (hr : Room (k + 1) X.A) (hb : Binds X.K fd ps []) (hx : Passes CX X (fun _ _ _ => False)) (hg : Gl X x) (hm : X.mg x = some (.ref C)) (hdb : (x == ("__debug__" : Str)) = false := by decide) :
    PMk X (.Call (.Name x p) [] [] pos) (fun _ H Q => RaisedX C (fs []) H Q) := fun pins s σ H Q I h =>
  pmk_oex0 T iC tI F1 hr hb hx hg hm hdb pins s σ H Q I (ex_mk (vs := []) (by decide) rfl h)
end
end
section
variable {K : PySem.W.Frag} {σ : L2.St} {H : Hp} {Q : VK} {f : Str} {to te : TE} {D : Ends} {C : Addr}
theorem x_ost (k : te σ H fun y H1 => to σ H1 fun x H2 => ∃ a C : Addr, x = .ref a ∧ OexC K C ∧ PySem.W.findIn K (.ref C) f = some none ∧
  ((H2 a = some (exo a C none) ∧ ∀ dx H', H2 dx = none → dx ≠ a → Ex [a] H2 H' → H' a = some (exo a C (some dx)) → H' dx = some (exd dx [(f, y)]) → D.nx σ H') ∨
    ∃ (dx : Addr) (fs : List (Str × V)), H2 a = some (exo a C (some dx)) ∧ H2 dx = some (exd dx fs) ∧ fs.length ≤ 900 ∧ dx ≠ a ∧ ∀ H', Ex [dx] H2 H' → H' a = some (exo a C (some dx)) → H' dx = some (exd dx ((f, y) :: fs)) → D.nx σ H')) : tOstE K f to te D σ H := k
theorem x_ost1 {a : Addr} {y : V} {P : Hp → Prop} (h : H a = some (exo a C none)) (c : OexC K C) (n : PySem.W.findIn K (.ref C) f = some none) (k : ∀ dx H', H dx = none → dx ≠ a → Ex [a] H H' → H' a = some (exo a C (some dx)) → H' dx = some (exd dx [(f, y)]) → P H') :
    ∃ a' C : Addr, V.ref a = .ref a' ∧ OexC K C ∧ PySem.W.findIn K (.ref C) f = some none ∧
  ((H a' = some (exo a' C none) ∧ ∀ dx H', H dx = none → dx ≠ a' → Ex [a'] H H' → H' a' = some (exo a' C (some dx)) → H' dx = some (exd dx [(f, y)]) → P H') ∨
    ∃ (dx : Addr) (fs : List (Str × V)), H a' = some (exo a' C (some dx)) ∧ H dx = some (exd dx fs) ∧ fs.length ≤ 900 ∧ dx ≠ a' ∧ ∀ H', Ex [dx] H H' → H' a' = some (exo a' C (some dx)) → H' dx = some (exd dx ((f, y) :: fs)) → P H') := ⟨a, C, rfl, c, n, .inl ⟨h, k⟩⟩
theorem x_ost2 {a dx : Addr} {y : V} {fs : List (Str × V)} {P : Hp → Prop} (h : H a = some (exo a C (some dx))) (hd : H dx = some (exd dx fs)) (hl : fs.length ≤ 900) (ne : dx ≠ a) (c : OexC K C) (n : PySem.W.findIn K (.ref C) f = some none)
    (k : ∀ H', Ex [dx] H H' → H' a = some (exo a C (some dx)) → H' dx = some (exd dx ((f, y) :: fs)) → P H') :
    ∃ a' C : Addr, V.ref a = .ref a' ∧ OexC K C ∧ PySem.W.findIn K (.ref C) f = some none ∧
  ((H a' = some (exo a' C none) ∧ ∀ dx H', H dx = none → dx ≠ a' → Ex [a'] H H' → H' a' = some (exo a' C (some dx)) → H' dx = some (exd dx [(f, y)]) → P H') ∨
    ∃ (dx : Addr) (fs : List (Str × V)), H a' = some (exo a' C (some dx)) ∧ H dx = some (exd dx fs) ∧ fs.length ≤ 900 ∧ dx ≠ a' ∧ ∀ H', Ex [dx] H H' → H' a' = some (exo a' C (some dx)) → H' dx = some (exd dx ((f, y) :: fs)) → P H') := ⟨a, C, rfl, c, n, .inr ⟨dx, fs, h, hd, hl, ne, k⟩⟩
theorem x_chain {r r' : R2} {ta tb tc : TE} (k : ta σ H fun x H1 => tb σ H1 fun y H2 => r x y H2 fun z H3 => ∃ k, z = .bl k ∧ (if k = true then tc σ H3 fun w' H4 => r' y w' H4 Q else Q (.bl false) H3)) : tChain r r' ta tb tc σ H Q := k
end
end BF
/-! ## try with two named clauses, both of which take: what is caught is told by wAs2 -/
namespace BF
open PySem PySem.Spec PyProof.Rows L2
abbrev ClS := Addr → Value → Option Addr → TS
/-- the ends of a suite behind which the slot i is unbound -/
def unEnd (i : Nat) (D : Ends) : Ends := { nx := fun t J => D.nx (t.set i none) J, rt := D.rt, bk := fun t J => D.bk (t.set i none) J, ct := fun t J => D.ct (t.set i none) J }
def wAs2 (K : PySem.W.Frag) (c c' : Value) (i : Nat) (ts ts' : ClS) (D : Ends) : WX := fun cls d σ H =>
  ∃ b, PySem.W.exmOne K cls c = some b ∧ (b = true → ∀ a, H a = none → ts a cls d (unEnd i D) (σ.set i (some (.ref a))) H) ∧
    (b = false → PySem.W.exmOne K cls c' = some true ∧ ∀ a, H a = none → ts' a cls d (unEnd i D) (σ.set i (some (.ref a))) H)
section
variable {X : Cx} {pins : List (Addr × Obj)} {σ : L2.St} {H : Hp} {D : Ends}
/-- a raised object is none of the frames -/
theorem fly_out {B h : Heap} {l : List Env} {a : Addr} {Z : Obj → Prop} (f : HandSPX.FlyingZ B l a Z h) : a ∉ frs l ∧ ∃ o vs, h.get? a = some o ∧ Z o ∧ o.data = .fields vs := by
  obtain ⟨o, vs, g, z, fd⟩ := f.there
  refine ⟨fun hm => ?_, o, vs, g, z, fd⟩
  obtain ⟨_, o2, g2, no⟩ := f.2.2.1.mem hm
  cases g.symm.trans g2
  exact no _ fd
theorem fly_suite {sI t : Shared} {B h : Heap} {a : Addr} {cls : Value} {d : Option Addr} (hs : X.stack = X.env :: X.outer) (hf : X.env.frame = some X.env.locals) (J : Inv X pins σ H sI) (nb : ∀ b o, sI.heap.get? b = some o → b ∉ frs X.stack → B.get? b = some o)
    (f : HandSPX.FlyingZ B (X.env :: X.outer) a (Zc cls d) h) (up : sI.heap.UpToSlots h) (na : H a = none) (os : t.os = sI.os) (ag : AllBare t.gens) :
    Inv X pins σ H { t with heap := h } ∧ ∃ o vs, h.get? a = some o ∧ Zc cls d o ∧ o.data = .fields vs ∧ Inv (X.suite a ((a, o) :: (X.pn ++ pins))) [] σ H { t with heap := h } := by
  have J1 : Inv X pins σ H { t with heap := h } := Inv.landed J nb f.1 up os ag
  obtain ⟨out, o, vs, g, z, fd⟩ := fly_out f
  have n1 : a ≠ X.env.locals := fun q => out (by rw [q]; exact List.mem_filterMap.mpr ⟨X.env, List.mem_cons_self, hf⟩)
  have n2 : a ∉ X.fs := fun q => by
    obtain ⟨e, m, k⟩ := List.mem_filterMap.mp q
    exact out (List.mem_filterMap.mpr ⟨e, List.mem_cons_of_mem _ m, k⟩)
  exact ⟨J1, o, vs, g, z, fd, J1.suite g fd na n1 n2⟩
theorem clause_as {sI t : Shared} {B h : Heap} {a : Addr} {cls : Value} {d : Option Addr} {x n : Str} {c : Value} {i : Nat} {b : Bool} {b₀ : Stmt} {suite : List Stmt} {np pos' : Pos} {rest : List ExceptHandler} {ts : ClS} (hs : X.stack = X.env :: X.outer) (hf : X.env.frame = some X.env.locals)
    (hN : X.N.Nodup) (hi : X.N[i]? = some n) (hln : X.env.kindOf n = some .local) (hc : Names X x c)
    (hsu : ∀ (a : Addr) (oe : Obj) (cls : Value) (d : Option Addr) (pn : List (Addr × Obj)), Zc cls d oe → (∃ vs, oe.data = .fields vs) → PSs (X.suite a ((a, oe) :: pn)) (b₀ :: suite) (ts a cls d))
    (J : Inv X pins σ H sI) (nb : ∀ b o, sI.heap.get? b = some o → b ∉ frs X.stack → B.get? b = some o)
    (f : HandSPX.FlyingZ B (X.env :: X.outer) a (Zc cls d) h) (up : sI.heap.UpToSlots h) (na : H a = none) (os : t.os = sI.os) (ag : AllBare t.gens) (hx : PySem.W.exmOne X.K cls c = some b)
    (yes : b = true → ts a cls d (unEnd i D) (σ.set i (some (.ref a))) H) (no : b = false → wpAny (model X.prog X.w) X.A (handleBy (.ref a) X.env rest) (SP X pins D) X.xe { t with heap := h }) :
    wpAny (model X.prog X.w) X.A (handleBy (.ref a) X.env (.ExceptHandler (some (.Name x np)) (some n) (b₀ :: suite) pos' :: rest)) (SP X pins D) X.xe { t with heap := h } := by
  obtain ⟨J1, o, vs, g, z, fd, S⟩ := fly_suite hs hf J nb f up na os ag
  refine wpAny_handleBy_cons (codeAny_handlers_test ?_) (by intro q; cases q)
  have lk : PySem.W.Looks (model X.prog X.w) h (typeOf (.ref a)) cls := fun _ _ _ _ k q => wpAny_typeOf_ref (k _ _ g) (by rw [z.1]; exact q)
  have name : ∀ {R E : Value → Shared → Prop}, R c { t with heap := h } → wpAny (model X.prog X.w) (X.A.mark (some (.ref a))) (eval (.Name x np) X.env) R E { t with heap := h } := fun {R E} q => by
    rcases hc with ⟨gl, dbg, m | ⟨m, v, ne⟩⟩
    · exact ld_glob S gl m q dbg
    · exact ld_blt S gl m v q ne dbg
  refine name (PySem.W.Looks.here (PySem.W.exm_one (M := model X.prog X.w) J1.kIn lk hx) ?_)
  cases b with
  | false => exact no rfl
  | true =>
    refine codeAny_handlers_suite_as (HandSPX.lands_againZ f fun h2 f2 up2 => ?_)
    obtain ⟨_, o2, vs2, g2, z2, fd2, S2⟩ := fly_suite (t := t) hs hf J nb f2 (up.trans up2) na os ag
    refine store_ok (X := X.suite a ((a, o2) :: (X.pn ++ pins))) (v := .ref a) S2 hN hi (.inl hln) rfl (fun u U => ?_) (.inr hln)
    refine wpAny_mono ((hsu a o2 cls d (X.pn ++ pins) z2 ⟨_, fd2⟩).run [] u _ H _ U (yes rfl)) (fun fl u2 r => ?_) (fun _ _ w => w.elim)
    have fin : ∀ {τ : L2.St} {G : Hp} {R : Shared → Prop}, Inv (X.suite a ((a, o2) :: (X.pn ++ pins))) [] τ G u2 → (∀ u3, Inv X pins (τ.set i none) G u3 → R u3) →
        wpAny (model X.prog X.w) X.A (do bindName X.env n .none; unbindBehindTheSuite X.env n pos') (fun _ u3 => R u3) X.xe u2 := fun V k => gone_ok (Inv.unsuite V J.ok) hN hi hln k
    cases fl with
    | ret w =>
      obtain ⟨v, τ, G, V, rv, q⟩ := r
      exact fin V fun _ V3 => ⟨v, _, _, V3, rv, q⟩
    | next =>
      obtain ⟨τ, G, V, q⟩ := r
      exact fin V fun _ V3 => ⟨_, _, V3, q⟩
    | brk =>
      obtain ⟨τ, G, V, q⟩ := r
      exact fin V fun _ V3 => ⟨_, _, V3, q⟩
    | cont =>
      obtain ⟨τ, G, V, q⟩ := r
      exact fin V fun _ V3 => ⟨_, _, V3, q⟩
/-- try: body, except x as n: suite, except x' as n: suite' -/
theorem ps_try_as2 {x x' n : Str} {c c' : Value} {i : Nat} {body suite suite' : List Stmt} {b₀ b₁ : Stmt} {np np' pos pos1 pos2 : Pos} {tb : WX → TS} {ts ts' : ClS} (hs : X.stack = X.env :: X.outer) (hf : X.env.frame = some X.env.locals)
    (hN : X.N.Nodup) (hi : X.N[i]? = some n) (hln : X.env.kindOf n = some .local) (hc : Names X x c) (hc' : Names X x' c')
    (hb : ∀ (W : WX) (pn : List (Addr × Obj)) (xe : Value → Shared → Prop), Takes (X.tr pn xe) W → PassesOwn (model X.prog X.w) X.A X.env xe → PSs (X.tr pn xe) body (tb W))
    (hsu : ∀ (a : Addr) (oe : Obj) (cls : Value) (d : Option Addr) (pn : List (Addr × Obj)), Zc cls d oe → (∃ vs, oe.data = .fields vs) → PSs (X.suite a ((a, oe) :: pn)) (b₀ :: suite) (ts a cls d))
    (hsu' : ∀ (a : Addr) (oe : Obj) (cls : Value) (d : Option Addr) (pn : List (Addr × Obj)), Zc cls d oe → (∃ vs, oe.data = .fields vs) → PSs (X.suite a ((a, oe) :: pn)) (b₁ :: suite') (ts' a cls d)) :
    PS X (.Try body [.ExceptHandler (some (.Name x np)) (some n) (b₀ :: suite) pos1, .ExceptHandler (some (.Name x' np')) (some n) (b₁ :: suite') pos2] [] [] pos) (fun D σ H => tb (wAs2 X.K c c' i ts ts' D) D σ H) := by
  refine ⟨fun pins s σ H D I q => wpAny_Try_except ?_⟩
  refine wpAny_mono ((hb (wAs2 X.K c c' i ts ts' D) (X.pn ++ pins) (fun e s₁ => wpAny (model X.prog X.w) X.A (noteFrame e X.env) (fun _ s₂ => wpAny (model X.prog X.w) X.A (setFlight e none) (fun _ s₃ =>
    wpAny (model X.prog X.w) X.A (handleBy e X.env [.ExceptHandler (some (.Name x np)) (some n) (b₀ :: suite) pos1, .ExceptHandler (some (.Name x' np')) (some n) (b₁ :: suite') pos2]) (SP X pins D) X.xe s₃) X.xe s₂) X.xe s₁) ?_ PassesOwn.looking).run [] s σ H D (I.toTry _) q) ?_ (fun _ _ r => r)
  · rintro u t ⟨a, B, sI, pins1, τ, G, cls, d, rfl, J, nb, up, sky, na, os, ag, b, hx, yes, no⟩
    have J := J.ofTry I.ok
    refine Sky.land (Z := Zc cls d) (B := B) (a := a) Zc.steady (by rw [I.ok.frames, hs]) hf (by rw [← hs]; exact sky) fun h f up' => ?_
    refine clause_as (t := t) hs hf hN hi hln hc hsu J nb f (up.trans up') na os ag hx (fun e => yes e a na) fun e => ?_
    obtain ⟨hx', k⟩ := no e
    exact clause_as (t := t) hs hf hN hi hln hc' hsu' J nb f (up.trans up') na os ag hx' (fun _ => k a na) nofun
  · intro fl t r
    cases fl with
    | ret v =>
      obtain ⟨w, τ, G, V, rv, k⟩ := r
      exact ⟨w, τ, G, V.ofTry I.ok, rv, k⟩
    | next =>
      obtain ⟨τ, G, V, k⟩ := r
      exact wpAny_execs_nil ⟨τ, G, V.ofTry I.ok, k⟩
    | brk =>
      obtain ⟨τ, G, V, k⟩ := r
      exact ⟨τ, G, V.ofTry I.ok, k⟩
    | cont =>
      obtain ⟨τ, G, V, k⟩ := r
      exact ⟨τ, G, V.ofTry I.ok, k⟩
end
end BF
/-! ## what stays where a lambda is made -/
namespace BF
open PySem PySem.Spec PyProof.Rows L2
section
variable {K : PySem.W.Frag} {H H1 : Hp} {a : Addr}
theorem N_at {o : HO} (e : LamX.ExtN H H1) (h : H a = some o) (n : ∀ ps, o ≠ .tbl ps) : H1 a = some o := e a o h n
theorem rd_N {u : HO} (e : LamX.ExtN H H1) (n : ∀ ps, u ≠ .tbl ps) (h : Rd H a u) : Rd H1 a u := by
  rcases h with h | ⟨o, h⟩
  · exact .inl (e _ _ h n)
  · exact .inr ⟨o, e _ _ h nofun⟩
theorem sql_N {xs : List V} (e : LamX.ExtN H H1) (h : SqL K H a xs) : SqL K H1 a xs := by
  rcases h with h | h
  · exact .inl (rd_N e nofun h)
  · exact .inr h
theorem sqt_N {xs : List V} (e : LamX.ExtN H H1) (h : SqT K H a xs) : SqT K H1 a xs := by
  rcases h with h | h
  · exact .inl (rd_N e nofun h)
  · exact .inr h
mutual
theorem Dat.N {M : List Addr} (e : LamX.ExtN H H1) : ∀ {v : V} {d : DV}, Dat K M H v d → Dat K M H1 v d
  | _, _, .non => .non
  | _, _, .bl b => .bl b
  | _, _, .int i => .int i
  | _, _, .str x => .str x
  | _, _, .lst h n l => .lst (sql_N e h) n (DatL.N e l)
  | _, _, .tup h n l => .tup (sqt_N e h) n (DatL.N e l)
theorem DatL.N {M : List Addr} (e : LamX.ExtN H H1) : ∀ {vs : List V} {ds : List DV}, DatL K M H vs ds → DatL K M H1 vs ds
  | _, _, .nil => .nil
  | _, _, .cons h l => .cons (Dat.N e h) (DatL.N e l)
end
/-- items that are data with P -/
def OD (K : PySem.W.Frag) (M : List Addr) (H : Hp) (P : DV → Prop) (xs : List V) : Prop := ∀ v ∈ xs, ∃ d, Dat K M H v d ∧ Deep 1 d ∧ P d
theorem OD.nil {M : List Addr} {P : DV → Prop} : OD K M H P [] := fun _ h => nomatch h
theorem OD.cons {M : List Addr} {P : DV → Prop} {v : V} {xs : List V} {d : DV} (h : Dat K M H v d) (dp : Deep 1 d) (p : P d) (k : OD K M H P xs) : OD K M H P (v :: xs) := fun w hw => by
  rcases List.mem_cons.mp hw with rfl | hw
  · exact ⟨d, h, dp, p⟩
  · exact k w hw
theorem OD.app {M : List Addr} {P : DV → Prop} {xs ys : List V} (h : OD K M H P xs) (k : OD K M H P ys) : OD K M H P (xs ++ ys) := fun w hw => (List.mem_append.mp hw).elim (h w) (k w)
theorem OD.get {M : List Addr} {P : DV → Prop} {xs : List V} {i : Nat} {v : V} (h : OD K M H P xs) (e : xs[i]? = some v) : ∃ d, Dat K M H v d ∧ Deep 1 d ∧ P d := h v (List.mem_of_getElem? e)
theorem OD.ex {M M' : List Addr} {P : DV → Prop} {xs : List V} (h : OD K M H P xs) (e : Ex M' H H1) (s : ∀ x ∈ M', x ∈ M) : OD K M H1 P xs := fun v hv => by
  obtain ⟨d, h1, h2, h3⟩ := h v hv
  exact ⟨d, h1.ex e s, h2, h3⟩
theorem OD.imp {M : List Addr} {P P' : DV → Prop} {xs : List V} (h : OD K M H P xs) (k : ∀ d, P d → P' d) : OD K M H P' xs := fun v hv => by
  obtain ⟨d, h1, h2, h3⟩ := h v hv
  exact ⟨d, h1, h2, k d h3⟩
/-- the tables stay where one list alone may change -/
theorem tabs_ex {T : List (Addr × Str)} {b : Addr} {xs : List V} (hb : H b = some (.lst xs)) (e : Ex [b] H H1) (t : LamX.Tabs T H) : LamX.Tabs T H1 := fun p hp => by
  obtain ⟨ps, h1, h2, h3⟩ := t p hp
  have n : ∀ {c : Addr} {o : HO}, H c = some o → o ≠ .lst xs → c ∉ [b] := fun {c o} hc hne z => by
    rw [List.mem_singleton.mp z, hb] at hc
    exact hne (Option.some.inj hc).symm
  refine ⟨ps, e _ _ (n h1 nofun) h1, h2, fun pos cv hc => ?_⟩
  obtain ⟨c, e1, e2⟩ := h3 pos cv hc
  exact ⟨c, e1, e _ _ (n e2 (by unfold LamX.CodeO; exact nofun)) e2⟩
theorem tabs_ex0 {T : List (Addr × Str)} (e : Ex [] H H1) (t : LamX.Tabs T H) : LamX.Tabs T H1 := t.ext fun b o h => e b o (by simp) h
end
end BF
/-! ## What a head tells of classes of exceptions and of written tables -/
namespace BF
open PySem PySem.Spec PyProof.Rows L2
def exccB (K : PySem.W.Frag) (x : Str) : Bool :=
  decide (PySem.W.findIn K (.ref (He.ga K x)) "__getattribute__" = some (some (.builtin "BaseException.__getattribute__"))) && (decide (PySem.W.findIn K (.ref (He.ga K x)) "__getattr__" = some none) &&
  (decide (PySem.W.subIn K (.ref (He.ga K x)) (.type "BaseException") = some true) && (PySem.W.hasDictIn K (He.ga K x) && (decide (PySem.W.findIn K (.ref (He.ga K x)) "__class__" = some (some (.builtin "object.__class__"))) &&
  (decide (PySem.W.specialIn K (.builtin "object.__class__") "__get__" = some (some (.builtin "getset_descriptor.__get__"))) && (decide (PySem.W.takesIn K (.builtin "object.__class__") = some true) && decide (PySem.W.mroIn K (He.ga K x) (.type "object") = some true)))))))
theorem exccB_ok {K : PySem.W.Frag} {x : Str} (h : exccB K x = true) : ExcC K (He.ga K x) := by
  unfold exccB at h
  simp only [Bool.and_eq_true, decide_eq_true_eq] at h
  exact ⟨h.1, h.2.1, h.2.2.1, h.2.2.2.1, h.2.2.2.2.1, h.2.2.2.2.2.1, h.2.2.2.2.2.2.1, h.2.2.2.2.2.2.2⟩
def kitsB (K : PySem.W.Frag) (x y : Str) (b : Bool) : Bool := decide (PySem.W.kitOne K (.ref (He.ga K x)) (.ref (He.ga K y)) = some b)
theorem kitsB_ok {K : PySem.W.Frag} {x y : Str} {b : Bool} (h : kitsB K x y b = true) : PySem.W.kitOne K (.ref (He.ga K x)) (.ref (He.ga K y)) = some b := of_decide_eq_true h
/-- the written table x holds v at k -/
theorem kdct_of {K : PySem.W.Frag} {w : World} {x k : Str} {v : He.Dv} {kvs : List (Str × He.Dv)} (hd : ∃ es n, KDict K w (He.ga K x) es n) (h : He.valsB K (He.ga K x) kvs = true) (hm : (k, v) ∈ kvs) : KDct K w (He.ga K x) k (v.v K) := by
  obtain ⟨es, n, D⟩ := hd
  obtain ⟨u, e, r⟩ := He.valsB_ok h hm
  exact ⟨es, n, u, D.at_, D.lit, e, r⟩
/-- what is seen piece by piece is seen at once -/
theorem ob_of {S : Type} {X : Option S} {ob : S → He.AlX} {fn : List He.DefD} {ts : List He.Tab} {w : World} {vs : List He.FnW} {tv : List (Option (List (Option (Str × Int))))}
    (ev : vs = fn.map He.DefD.val) (et : tv = ts.map fun t => some (He.keysIn w.params t.2)) (h : X.map (fun x => ((ob x).1.1.1, (ob x).1.1.2, (ob x).1.2, (ob x).2)) = some (true, vs, tv, true)) : X.map ob = some (He.valX fn ts w) := by
  cases X with
  | none => cases h
  | some x =>
    have h := Option.some.inj h
    simp only [Prod.mk.injEq] at h
    obtain ⟨h3, h4, h5, h6⟩ := h
    refine congrArg some (Prod.ext (Prod.ext (Prod.ext h3 ?_) ?_) h6)
    · exact h4.trans ev
    · exact h5.trans et
theorem runEq_of {r : PySem.W.OpenRow} {q : Program} {n : Nat} {fa : List He.Fa} {fn : List He.DefD} {ts : List He.Tab} {tf : List He.Defn} {ex : PySem.W.Frag → Bool} {ob : PySem.W.SharedT → He.AlX} {M : Nat} {loose : List PySem.Str} {w : World}
    (hA : (HandSHeadRun.wholeF (fun p => HandSHeadRun.stepQ (HandSHeadRun.denQ HandSHeadRun.tabQ) p w) HandSHeadRun.fenceQ M r.prog).map (fun x => (HandSHeadRun.looksF r.prog x.1.heap x.2.abs, HandSHeadRun.seenQ q loose (PySem.importedModules r.prog.main.body) (fun s => PySem.W.xlAt q [] s && PySem.W.recOk r.toRowW.records s) x.2.abs)) = some (true, PySem.W.openGood q loose))
    (hB : (HandSHeadRun.wholeF (fun p => HandSHeadRun.stepQ (HandSHeadRun.denQ HandSHeadRun.tabQ) p w) HandSHeadRun.fenceQ M r.prog).map (fun x => ob x.2) = some (He.valX fn ts w)) : HandSHeadRun.RunEqI r q (He.hookX n fa fn ts tf ex) ob M loose w := by
  unfold HandSHeadRun.RunEqI
  generalize HandSHeadRun.wholeF (fun p => HandSHeadRun.stepQ (HandSHeadRun.denQ HandSHeadRun.tabQ) p w) HandSHeadRun.fenceQ M r.prog = X at hA hB ⊢
  cases X with
  | none => cases hA
  | some x =>
    have hA := Option.some.inj hA
    have hB := Option.some.inj hB
    obtain ⟨h1, h2⟩ := Prod.mk.inj hA
    exact congrArg some (Prod.ext h1 (Prod.ext h2 hB))
end BF
/-! ## The text by places, what the head tells, the run -/
namespace BF
open PySem PySem.Spec PyProof.Rows L2
def top (i : Nat) : Stmt := PySem.Challenge.pw_borderflow_k13_deeds_judged.main.body.getD i (.Pass ⟨0, 0, 0, 0⟩)
abbrev s_InvalidSizes___init__ : Stmt := inClass (top 7) 0
abbrev s_InvalidDeed___init__ : Stmt := inClass (top 8) 0
abbrev s_TooMany___init__ : Stmt := inClass (top 9) 0
abbrev s_Ratio___init__ : Stmt := inClass (top 12) 0
abbrev s_count_ratio : Stmt := top 13
abbrev s_is_whole : Stmt := top 15
abbrev s_is_number : Stmt := top 18
abbrev s_is_sizes : Stmt := top 21
abbrev s_sign_count : Stmt := top 22
abbrev s__are_values : Stmt := top 23
abbrev s__are_reads : Stmt := top 24
abbrev s__is_add : Stmt := top 25
abbrev s_is_deed : Stmt := top 26
abbrev s_inverse_deed : Stmt := top 27
abbrev s_deed_span : Stmt := top 28
abbrev s_deed_text : Stmt := top 29
abbrev s_track_values : Stmt := top 33
abbrev s_sign_of : Stmt := top 34
abbrev s_int_power : Stmt := top 36
abbrev s__total_span : Stmt := top 38
abbrev s__total_flow : Stmt := top 39
abbrev s_Program___init__ : Stmt := inClass (top 41) 0
abbrev s_Program_deeds : Stmt := inClass (top 41) 1
abbrev s__law_bag : Stmt := top 43
abbrev s__law_draw : Stmt := top 44
abbrev s__law_of : Stmt := top 45
abbrev s__law_like : Stmt := top 46
abbrev s__law_fault : Stmt := top 47
abbrev s__law_ask : Stmt := top 48
abbrev s__law_product : Stmt := top 49
abbrev s__law_parts : Stmt := top 50
abbrev s__law_span : Stmt := top 51
abbrev s__law_undone : Stmt := top 52
abbrev s__law_reads : Stmt := top 53
abbrev s__law_swap : Stmt := top 54
abbrev s__law_deed : Stmt := top 55
abbrev s__law_deed_text : Stmt := top 56
abbrev s__law_whole : Stmt := top 57
abbrev s__law_sizes_right : Stmt := top 58
abbrev s__law_reads_right : Stmt := top 59
abbrev s__law_right : Stmt := top 60
abbrev s__law_odd : Stmt := top 61
abbrev s__law_tuple_bent : Stmt := top 62
abbrev s__law_bent : Stmt := top 63
abbrev s__law_judged : Stmt := top 64
abbrev s__law_deeds : Stmt := top 65
abbrev s__law_signs : Stmt := top 66
abbrev s__law_sizes : Stmt := top 67
abbrev s_law : Stmt := top 68
def d_InvalidSizes___init__ : He.DefD := ⟨("InvalidSizes", some "__init__"), "__init__", "InvalidSizes.__init__", defArgs s_InvalidSizes___init__, defBody s_InvalidSizes___init__, defScope s_InvalidSizes___init__, [], []⟩
def d_InvalidDeed___init__ : He.DefD := ⟨("InvalidDeed", some "__init__"), "__init__", "InvalidDeed.__init__", defArgs s_InvalidDeed___init__, defBody s_InvalidDeed___init__, defScope s_InvalidDeed___init__, [], []⟩
def d_TooMany___init__ : He.DefD := ⟨("TooMany", some "__init__"), "__init__", "TooMany.__init__", defArgs s_TooMany___init__, defBody s_TooMany___init__, defScope s_TooMany___init__, [], []⟩
def d_Ratio___init__ : He.DefD := ⟨("Ratio", some "__init__"), "__init__", "Ratio.__init__", defArgs s_Ratio___init__, defBody s_Ratio___init__, defScope s_Ratio___init__, [.int 1], []⟩
def d_count_ratio : He.DefD := ⟨("count_ratio", none), "count_ratio", "count_ratio", defArgs s_count_ratio, defBody s_count_ratio, defScope s_count_ratio, [], []⟩
def d_is_whole : He.DefD := ⟨("is_whole", none), "is_whole", "is_whole", defArgs s_is_whole, defBody s_is_whole, defScope s_is_whole, [], []⟩
def d_is_number : He.DefD := ⟨("is_number", none), "is_number", "is_number", defArgs s_is_number, defBody s_is_number, defScope s_is_number, [], []⟩
def d_is_sizes : He.DefD := ⟨("is_sizes", none), "is_sizes", "is_sizes", defArgs s_is_sizes, defBody s_is_sizes, defScope s_is_sizes, [], []⟩
def d_sign_count : He.DefD := ⟨("sign_count", none), "sign_count", "sign_count", defArgs s_sign_count, defBody s_sign_count, defScope s_sign_count, [], []⟩
def d__are_values : He.DefD := ⟨("_are_values", none), "_are_values", "_are_values", defArgs s__are_values, defBody s__are_values, defScope s__are_values, [], []⟩
def d__are_reads : He.DefD := ⟨("_are_reads", none), "_are_reads", "_are_reads", defArgs s__are_reads, defBody s__are_reads, defScope s__are_reads, [], []⟩
def d__is_add : He.DefD := ⟨("_is_add", none), "_is_add", "_is_add", defArgs s__is_add, defBody s__is_add, defScope s__is_add, [], []⟩
def d_is_deed : He.DefD := ⟨("is_deed", none), "is_deed", "is_deed", defArgs s_is_deed, defBody s_is_deed, defScope s_is_deed, [], []⟩
def d_inverse_deed : He.DefD := ⟨("inverse_deed", none), "inverse_deed", "inverse_deed", defArgs s_inverse_deed, defBody s_inverse_deed, defScope s_inverse_deed, [], []⟩
def d_deed_span : He.DefD := ⟨("deed_span", none), "deed_span", "deed_span", defArgs s_deed_span, defBody s_deed_span, defScope s_deed_span, [], []⟩
def d_deed_text : He.DefD := ⟨("deed_text", none), "deed_text", "deed_text", defArgs s_deed_text, defBody s_deed_text, defScope s_deed_text, [], []⟩
def d_track_values : He.DefD := ⟨("track_values", none), "track_values", "track_values", defArgs s_track_values, defBody s_track_values, defScope s_track_values, [], []⟩
def d_sign_of : He.DefD := ⟨("sign_of", none), "sign_of", "sign_of", defArgs s_sign_of, defBody s_sign_of, defScope s_sign_of, [], []⟩
def d_int_power : He.DefD := ⟨("int_power", none), "int_power", "int_power", defArgs s_int_power, defBody s_int_power, defScope s_int_power, [], []⟩
def d__total_span : He.DefD := ⟨("_total_span", none), "_total_span", "_total_span", defArgs s__total_span, defBody s__total_span, defScope s__total_span, [], []⟩
def d__total_flow : He.DefD := ⟨("_total_flow", none), "_total_flow", "_total_flow", defArgs s__total_flow, defBody s__total_flow, defScope s__total_flow, [], []⟩
def d_Program___init__ : He.DefD := ⟨("Program", some "__init__"), "__init__", "Program.__init__", defArgs s_Program___init__, defBody s_Program___init__, defScope s_Program___init__, [], []⟩
def d_Program_deeds : He.DefD := ⟨("Program", some "deeds"), "deeds", "Program.deeds", defArgs s_Program_deeds, defBody s_Program_deeds, defScope s_Program_deeds, [], []⟩
def d__law_bag : He.DefD := ⟨("_law_bag", none), "_law_bag", "_law_bag", defArgs s__law_bag, defBody s__law_bag, defScope s__law_bag, [], []⟩
def d__law_draw : He.DefD := ⟨("_law_draw", none), "_law_draw", "_law_draw", defArgs s__law_draw, defBody s__law_draw, defScope s__law_draw, [], []⟩
def d__law_of : He.DefD := ⟨("_law_of", none), "_law_of", "_law_of", defArgs s__law_of, defBody s__law_of, defScope s__law_of, [], []⟩
def d__law_like : He.DefD := ⟨("_law_like", none), "_law_like", "_law_like", defArgs s__law_like, defBody s__law_like, defScope s__law_like, [], []⟩
def d__law_fault : He.DefD := ⟨("_law_fault", none), "_law_fault", "_law_fault", defArgs s__law_fault, defBody s__law_fault, defScope s__law_fault, [], []⟩
def d__law_ask : He.DefD := ⟨("_law_ask", none), "_law_ask", "_law_ask", defArgs s__law_ask, defBody s__law_ask, defScope s__law_ask, [], []⟩
def d__law_product : He.DefD := ⟨("_law_product", none), "_law_product", "_law_product", defArgs s__law_product, defBody s__law_product, defScope s__law_product, [], []⟩
def d__law_parts : He.DefD := ⟨("_law_parts", none), "_law_parts", "_law_parts", defArgs s__law_parts, defBody s__law_parts, defScope s__law_parts, [], []⟩
def d__law_span : He.DefD := ⟨("_law_span", none), "_law_span", "_law_span", defArgs s__law_span, defBody s__law_span, defScope s__law_span, [], []⟩
def d__law_undone : He.DefD := ⟨("_law_undone", none), "_law_undone", "_law_undone", defArgs s__law_undone, defBody s__law_undone, defScope s__law_undone, [], []⟩
def d__law_reads : He.DefD := ⟨("_law_reads", none), "_law_reads", "_law_reads", defArgs s__law_reads, defBody s__law_reads, defScope s__law_reads, [], []⟩
def d__law_swap : He.DefD := ⟨("_law_swap", none), "_law_swap", "_law_swap", defArgs s__law_swap, defBody s__law_swap, defScope s__law_swap, [], []⟩
def d__law_deed : He.DefD := ⟨("_law_deed", none), "_law_deed", "_law_deed", defArgs s__law_deed, defBody s__law_deed, defScope s__law_deed, [], []⟩
def d__law_deed_text : He.DefD := ⟨("_law_deed_text", none), "_law_deed_text", "_law_deed_text", defArgs s__law_deed_text, defBody s__law_deed_text, defScope s__law_deed_text, [], []⟩
def d__law_whole : He.DefD := ⟨("_law_whole", none), "_law_whole", "_law_whole", defArgs s__law_whole, defBody s__law_whole, defScope s__law_whole, [], []⟩
def d__law_sizes_right : He.DefD := ⟨("_law_sizes_right", none), "_law_sizes_right", "_law_sizes_right", defArgs s__law_sizes_right, defBody s__law_sizes_right, defScope s__law_sizes_right, [], []⟩
def d__law_reads_right : He.DefD := ⟨("_law_reads_right", none), "_law_reads_right", "_law_reads_right", defArgs s__law_reads_right, defBody s__law_reads_right, defScope s__law_reads_right, [], []⟩
def d__law_right : He.DefD := ⟨("_law_right", none), "_law_right", "_law_right", defArgs s__law_right, defBody s__law_right, defScope s__law_right, [], []⟩
def d__law_odd : He.DefD := ⟨("_law_odd", none), "_law_odd", "_law_odd", defArgs s__law_odd, defBody s__law_odd, defScope s__law_odd, [], []⟩
def d__law_tuple_bent : He.DefD := ⟨("_law_tuple_bent", none), "_law_tuple_bent", "_law_tuple_bent", defArgs s__law_tuple_bent, defBody s__law_tuple_bent, defScope s__law_tuple_bent, [], []⟩
def d__law_bent : He.DefD := ⟨("_law_bent", none), "_law_bent", "_law_bent", defArgs s__law_bent, defBody s__law_bent, defScope s__law_bent, [], []⟩
def d__law_judged : He.DefD := ⟨("_law_judged", none), "_law_judged", "_law_judged", defArgs s__law_judged, defBody s__law_judged, defScope s__law_judged, [], []⟩
def d__law_deeds : He.DefD := ⟨("_law_deeds", none), "_law_deeds", "_law_deeds", defArgs s__law_deeds, defBody s__law_deeds, defScope s__law_deeds, [], []⟩
def d__law_signs : He.DefD := ⟨("_law_signs", none), "_law_signs", "_law_signs", defArgs s__law_signs, defBody s__law_signs, defScope s__law_signs, [], []⟩
def d__law_sizes : He.DefD := ⟨("_law_sizes", none), "_law_sizes", "_law_sizes", defArgs s__law_sizes, defBody s__law_sizes, defScope s__law_sizes, [], []⟩
def d_law : He.DefD := ⟨("law", none), "law", "law", defArgs s_law, defBody s_law, defScope s_law, [], []⟩
def fn0 : List He.DefD := [d_InvalidSizes___init__, d_InvalidDeed___init__, d_TooMany___init__, d_Ratio___init__, d_count_ratio, d_is_whole, d_is_number, d_is_sizes, d_sign_count, d__are_values, d__are_reads, d__is_add]
def fn1 : List He.DefD := [d_is_deed, d_inverse_deed, d_deed_span, d_deed_text, d_track_values, d_sign_of, d_int_power, d__total_span, d__total_flow, d_Program___init__, d_Program_deeds, d__law_bag]
def fn2 : List He.DefD := [d__law_draw, d__law_of, d__law_like, d__law_fault, d__law_ask, d__law_product, d__law_parts, d__law_span, d__law_undone, d__law_reads, d__law_swap, d__law_deed]
def fn3 : List He.DefD := [d__law_deed_text, d__law_whole, d__law_sizes_right, d__law_reads_right, d__law_right, d__law_odd, d__law_tuple_bent, d__law_bent, d__law_judged, d__law_deeds, d__law_signs, d__law_sizes]
def fn4 : List He.DefD := [d_law]
def fn : List He.DefD := fn0 ++ fn1 ++ fn2 ++ fn3 ++ fn4
def fa0 : List He.Fa := [.free "ValueError", .free "all", .free "bool", .free "enumerate", .free "int", .free "isinstance", .free "len", .free "list", .free "max", .free "min", .free "range", .free "reversed"]
def fa1 : List He.Fa := [.free "set", .free "sorted", .free "staticmethod", .free "str", .free "tuple", .free "zip", .glo "BorderError", .glo "InvalidSizes", .glo "InvalidDeed", .glo "TooMany", .glo "Ratio", .glo "count_ratio"]
def fa2 : List He.Fa := [.glo "is_whole", .glo "is_number", .glo "is_sizes", .glo "sign_count", .glo "_are_values", .glo "_are_reads", .glo "_is_add", .glo "is_deed", .glo "inverse_deed", .glo "deed_span", .glo "deed_text", .glo "track_values"]
def fa3 : List He.Fa := [.glo "sign_of", .glo "int_power", .glo "_total_span", .glo "_total_flow", .glo "Program", .glo "_law_bag", .glo "_law_draw", .glo "_law_of", .glo "_law_like", .glo "_law_fault", .glo "_law_ask", .glo "_law_product"]
def fa4 : List He.Fa := [.glo "_law_parts", .glo "_law_span", .glo "_law_undone", .glo "_law_reads", .glo "_law_swap", .glo "_law_deed", .glo "_law_deed_text", .glo "_law_whole", .glo "_law_sizes_right", .glo "_law_reads_right", .glo "_law_right", .glo "_law_odd"]
def fa5 : List He.Fa := [.glo "_law_tuple_bent", .glo "_law_bent", .glo "_law_judged", .glo "_law_deeds", .glo "_law_signs", .glo "_law_sizes", .glo "law", .glo "LIMITS", .cls "Ratio", .mkr "Ratio", .noat "Ratio" "top", .noat "Ratio" "bottom"]
def fa6 : List He.Fa := [.cls "Program", .mkr "Program", .noat "Program" "sizes", .noat "Program" "signs", .noat "Program" "span", .noat "Program" "flow", .noat "Program" "_deeds", .meth "Program" "deeds", .exm "InvalidSizes" "BorderError" true, .exm "InvalidDeed" "BorderError" true, .exm "TooMany" "BorderError" true]
def fa : List He.Fa := fa0 ++ fa1 ++ fa2 ++ fa3 ++ fa4 ++ fa5 ++ fa6
def loose0 : List PySem.Str := ["gcd", "_wall", "LIMITS", "BorderError", "InvalidNumber", "InvalidText", "InvalidSizes", "InvalidDeed", "TooMany", "PRIMES"]
def loose1 : List PySem.Str := ["Ratio", "count_ratio", "power_of", "is_whole", "_times_divided", "is_number", "DIGITS", "is_sizes", "sign_count", "_are_values"]
def loose2 : List PySem.Str := ["_are_reads", "_is_add", "is_deed", "inverse_deed", "deed_span", "deed_text", "read_number", "read_numbers", "read_deed", "track_values"]
def loose3 : List PySem.Str := ["sign_of", "int_power", "_total_span", "_total_flow", "_read_sizes", "Program", "_law_bag", "_law_draw", "_law_of", "_law_like"]
def loose4 : List PySem.Str := ["_law_fault", "_law_ask", "_law_product", "_law_parts", "_law_span", "_law_undone", "_law_reads", "_law_swap", "_law_deed", "_law_deed_text"]
def loose5 : List PySem.Str := ["_law_whole", "_law_sizes_right", "_law_reads_right", "_law_right", "_law_odd", "_law_tuple_bent", "_law_bent", "_law_judged", "_law_deeds", "_law_signs"]
def loose6 : List PySem.Str := ["_law_sizes"]
def loose : List PySem.Str := loose0 ++ loose1 ++ loose2 ++ loose3 ++ loose4 ++ loose5 ++ loose6
def e_InvalidSizes : ExcD := ⟨"InvalidSizes", ["code"]⟩
def e_InvalidDeed : ExcD := ⟨"InvalidDeed", ["at", "code"]⟩
def e_TooMany : ExcD := ⟨"TooMany", ["what", "count", "code"]⟩
def tv_LIMITS : List (Str × He.Dv) := [("tracks", .int 64), ("deeds", .int 12)]
def more0 (K : PySem.W.Frag) : Bool := e_InvalidSizes.ok K
def more1 (K : PySem.W.Frag) : Bool := e_InvalidDeed.ok K
def more2 (K : PySem.W.Frag) : Bool := e_TooMany.ok K
def more3 (K : PySem.W.Frag) : Bool := decide (PySem.W.nsIn K mainGlobals "gcd" = some (some (.builtin "math.gcd")))
def more4 (K : PySem.W.Frag) : Bool := !decide ((He.cT K ("_law_judged", none)).2 = (He.cT K ("law", none)).2)
def more5 (K : PySem.W.Frag) : Bool := exccB K "InvalidSizes"
def more6 (K : PySem.W.Frag) : Bool := exccB K "InvalidDeed"
def more7 (K : PySem.W.Frag) : Bool := exccB K "TooMany"
def more8 (K : PySem.W.Frag) : Bool := kitsB K "InvalidSizes" "InvalidSizes" true
def more9 (K : PySem.W.Frag) : Bool := kitsB K "InvalidDeed" "InvalidSizes" false
def more10 (K : PySem.W.Frag) : Bool := kitsB K "InvalidDeed" "InvalidDeed" true
def more11 (K : PySem.W.Frag) : Bool := kitsB K "TooMany" "InvalidSizes" false
def more12 (K : PySem.W.Frag) : Bool := kitsB K "TooMany" "InvalidDeed" false
def more13 (K : PySem.W.Frag) : Bool := kitsB K "TooMany" "TooMany" true
def more14 (K : PySem.W.Frag) : Bool := He.valsB K (He.ga K "LIMITS") tv_LIMITS
def more (K : PySem.W.Frag) : Bool := more0 K && (more1 K && (more2 K && (more3 K && (more4 K && (more5 K && (more6 K && (more7 K && (more8 K && (more9 K && (more10 K && (more11 K && (more12 K && (more13 K && (more14 K))))))))))))))
def tf : List He.Defn := [("_law_judged", none), ("law", none)]
def tk_LIMITS0 : List PySem.Str := ["signs", "table", "pairs", "halves", "words", "seam", "tracks", "deeds", "zones", "ticks"]
def tk_LIMITS1 : List PySem.Str := ["sayings", "seen"]
def tk_LIMITS : List PySem.Str := tk_LIMITS0 ++ tk_LIMITS1
def tts : List He.Tab := [(fun K => He.ga K "LIMITS", tk_LIMITS)]
abbrev R : PySem.W.OpenRow := PySem.W.OpenLaw.row PySem.Challenge.rw_borderflow_k13_deeds_judged
abbrev hk : PySem.W.Hook := He.hookX 5 fa fn tts tf more
def ob (s : PySem.W.SharedT) : He.AlX := He.obsX 5 fa fn tts tf more (HandSHeadRun.getT s)
theorem ob_eq (s : PySem.W.SharedT) : ob s = hk.obs s.abs := He.obsX_eq (HandSHeadRun.getT_eq s)
def vals : List He.FnW := [He.DefD.val d_InvalidSizes___init__, He.DefD.val d_InvalidDeed___init__, He.DefD.val d_TooMany___init__, He.DefD.val d_Ratio___init__, He.DefD.val d_count_ratio, He.DefD.val d_is_whole, He.DefD.val d_is_number, He.DefD.val d_is_sizes, He.DefD.val d_sign_count, He.DefD.val d__are_values, He.DefD.val d__are_reads, He.DefD.val d__is_add, He.DefD.val d_is_deed, He.DefD.val d_inverse_deed, He.DefD.val d_deed_span, He.DefD.val d_deed_text, He.DefD.val d_track_values, He.DefD.val d_sign_of, He.DefD.val d_int_power, He.DefD.val d__total_span, He.DefD.val d__total_flow, He.DefD.val d_Program___init__, He.DefD.val d_Program_deeds, He.DefD.val d__law_bag, He.DefD.val d__law_draw, He.DefD.val d__law_of, He.DefD.val d__law_like, He.DefD.val d__law_fault, He.DefD.val d__law_ask, He.DefD.val d__law_product, He.DefD.val d__law_parts, He.DefD.val d__law_span, He.DefD.val d__law_undone, He.DefD.val d__law_reads, He.DefD.val d__law_swap, He.DefD.val d__law_deed, He.DefD.val d__law_deed_text, He.DefD.val d__law_whole, He.DefD.val d__law_sizes_right, He.DefD.val d__law_reads_right, He.DefD.val d__law_right, He.DefD.val d__law_odd, He.DefD.val d__law_tuple_bent, He.DefD.val d__law_bent, He.DefD.val d__law_judged, He.DefD.val d__law_deeds, He.DefD.val d__law_signs, He.DefD.val d__law_sizes, He.DefD.val d_law]
theorem vals_eq : vals = fn.map He.DefD.val := by rfl
def tvs (w : World) : List (Option (List (Option (Str × Int)))) := [some (He.keysIn w.params tk_LIMITS)]
theorem tvs_eq (w : World) : tvs w = tts.map fun t => some (He.keysIn w.params t.2) := by rfl
set_option maxHeartbeats 0 in
theorem goA_false (w : World) : (HandSHeadRun.wholeF (fun p => HandSHeadRun.stepQ (HandSHeadRun.denQ HandSHeadRun.tabQ) p (w.withFollow "special-get-raises" false)) HandSHeadRun.fenceQ 7000 R.prog).map (fun x => (HandSHeadRun.looksF R.prog x.1.heap x.2.abs, HandSHeadRun.seenQ (PySem.W.view R.prog [68]) loose (PySem.importedModules R.prog.main.body) (fun s => PySem.W.xlAt (PySem.W.view R.prog [68]) [] s && PySem.W.recOk R.toRowW.records s) x.2.abs)) = some (true, PySem.W.openGood (PySem.W.view R.prog [68]) loose) := by
  kernel_rfl
set_option maxHeartbeats 0 in
theorem goB_false (w : World) : (HandSHeadRun.wholeF (fun p => HandSHeadRun.stepQ (HandSHeadRun.denQ HandSHeadRun.tabQ) p (w.withFollow "special-get-raises" false)) HandSHeadRun.fenceQ 7000 R.prog).map (fun x => ((ob x.2).1.1.1, (ob x.2).1.1.2, (ob x.2).1.2, (ob x.2).2)) = some (true, vals, tvs (w.withFollow "special-get-raises" false), true) := by
  kernel_rfl
theorem run_false (w : World) : HandSHeadRun.RunEqI R (PySem.W.view R.prog [68]) hk ob 7000 loose (w.withFollow "special-get-raises" false) := runEq_of (goA_false w) (ob_of vals_eq (tvs_eq _) (goB_false w))
set_option maxHeartbeats 0 in
theorem goA_true (w : World) : (HandSHeadRun.wholeF (fun p => HandSHeadRun.stepQ (HandSHeadRun.denQ HandSHeadRun.tabQ) p (w.withFollow "special-get-raises" true)) HandSHeadRun.fenceQ 7000 R.prog).map (fun x => (HandSHeadRun.looksF R.prog x.1.heap x.2.abs, HandSHeadRun.seenQ (PySem.W.view R.prog [68]) loose (PySem.importedModules R.prog.main.body) (fun s => PySem.W.xlAt (PySem.W.view R.prog [68]) [] s && PySem.W.recOk R.toRowW.records s) x.2.abs)) = some (true, PySem.W.openGood (PySem.W.view R.prog [68]) loose) := by
  kernel_rfl
set_option maxHeartbeats 0 in
theorem goB_true (w : World) : (HandSHeadRun.wholeF (fun p => HandSHeadRun.stepQ (HandSHeadRun.denQ HandSHeadRun.tabQ) p (w.withFollow "special-get-raises" true)) HandSHeadRun.fenceQ 7000 R.prog).map (fun x => ((ob x.2).1.1.1, (ob x.2).1.1.2, (ob x.2).1.2, (ob x.2).2)) = some (true, vals, tvs (w.withFollow "special-get-raises" true), true) := by
  kernel_rfl
theorem run_true (w : World) : HandSHeadRun.RunEqI R (PySem.W.view R.prog [68]) hk ob 7000 loose (w.withFollow "special-get-raises" true) := runEq_of (goA_true w) (ob_of vals_eq (tvs_eq _) (goB_true w))
theorem run (w : World) : HandSHeadRun.RunEqI R (PySem.W.view R.prog [68]) hk ob 7000 loose w := PySem.W.byRow2 "special-get-raises" (P := fun w => HandSHeadRun.RunEqI R (PySem.W.view R.prog [68]) hk ob 7000 loose w) run_false run_true w
def lawAt : Nat := 68
/-- what is known of the text's own part -/
abbrev TT (K : PySem.W.Frag) (mg : Str → Option Value) : Prop := TX fa fn more K mg
section
variable {K : PySem.W.Frag} {mg : Str → Option Value} (T : TT K mg)
include T
theorem m_0 : more0 K = true := by
  have h := T.more
  unfold more at h
  simp only [Bool.and_eq_true] at h
  exact h.1
theorem m_1 : more1 K = true := by
  have h := T.more
  unfold more at h
  simp only [Bool.and_eq_true] at h
  exact h.2.1
theorem m_2 : more2 K = true := by
  have h := T.more
  unfold more at h
  simp only [Bool.and_eq_true] at h
  exact h.2.2.1
theorem m_3 : more3 K = true := by
  have h := T.more
  unfold more at h
  simp only [Bool.and_eq_true] at h
  exact h.2.2.2.1
theorem m_4 : more4 K = true := by
  have h := T.more
  unfold more at h
  simp only [Bool.and_eq_true] at h
  exact h.2.2.2.2.1
theorem m_5 : more5 K = true := by
  have h := T.more
  unfold more at h
  simp only [Bool.and_eq_true] at h
  exact h.2.2.2.2.2.1
theorem m_6 : more6 K = true := by
  have h := T.more
  unfold more at h
  simp only [Bool.and_eq_true] at h
  exact h.2.2.2.2.2.2.1
theorem m_7 : more7 K = true := by
  have h := T.more
  unfold more at h
  simp only [Bool.and_eq_true] at h
  exact h.2.2.2.2.2.2.2.1
theorem m_8 : more8 K = true := by
  have h := T.more
  unfold more at h
  simp only [Bool.and_eq_true] at h
  exact h.2.2.2.2.2.2.2.2.1
theorem m_9 : more9 K = true := by
  have h := T.more
  unfold more at h
  simp only [Bool.and_eq_true] at h
  exact h.2.2.2.2.2.2.2.2.2.1
theorem m_10 : more10 K = true := by
  have h := T.more
  unfold more at h
  simp only [Bool.and_eq_true] at h
  exact h.2.2.2.2.2.2.2.2.2.2.1
theorem m_11 : more11 K = true := by
  have h := T.more
  unfold more at h
  simp only [Bool.and_eq_true] at h
  exact h.2.2.2.2.2.2.2.2.2.2.2.1
theorem m_12 : more12 K = true := by
  have h := T.more
  unfold more at h
  simp only [Bool.and_eq_true] at h
  exact h.2.2.2.2.2.2.2.2.2.2.2.2.1
theorem m_13 : more13 K = true := by
  have h := T.more
  unfold more at h
  simp only [Bool.and_eq_true] at h
  exact h.2.2.2.2.2.2.2.2.2.2.2.2.2.1
theorem m_14 : more14 K = true := by
  have h := T.more
  unfold more at h
  simp only [Bool.and_eq_true] at h
  exact h.2.2.2.2.2.2.2.2.2.2.2.2.2.2
theorem F_InvalidSizes___init__ : FunD K "__init__" "InvalidSizes.__init__" (defArgs s_InvalidSizes___init__) (defBody s_InvalidSizes___init__) (defScope s_InvalidSizes___init__) (d_InvalidSizes___init__.dvs K) [] (He.ma K (He.ga K "InvalidSizes") "__init__") (fdOf K ("InvalidSizes", some "__init__")) := T.fn_ 0 (d := d_InvalidSizes___init__) rfl
theorem B_InvalidSizes___init__ : Binds K (fdOf K ("InvalidSizes", some "__init__")) ["self"] [] := (F_InvalidSizes___init__ T).bindsN fun _ _ _ _ _ _ us hl => match us, hl with | [_], _ => rfl
theorem F_InvalidDeed___init__ : FunD K "__init__" "InvalidDeed.__init__" (defArgs s_InvalidDeed___init__) (defBody s_InvalidDeed___init__) (defScope s_InvalidDeed___init__) (d_InvalidDeed___init__.dvs K) [] (He.ma K (He.ga K "InvalidDeed") "__init__") (fdOf K ("InvalidDeed", some "__init__")) := T.fn_ 1 (d := d_InvalidDeed___init__) rfl
theorem B_InvalidDeed___init__ : Binds K (fdOf K ("InvalidDeed", some "__init__")) ["self", "at"] [] := (F_InvalidDeed___init__ T).bindsN fun _ _ _ _ _ _ us hl => match us, hl with | [_, _], _ => rfl
theorem F_TooMany___init__ : FunD K "__init__" "TooMany.__init__" (defArgs s_TooMany___init__) (defBody s_TooMany___init__) (defScope s_TooMany___init__) (d_TooMany___init__.dvs K) [] (He.ma K (He.ga K "TooMany") "__init__") (fdOf K ("TooMany", some "__init__")) := T.fn_ 2 (d := d_TooMany___init__) rfl
theorem B_TooMany___init__ : Binds K (fdOf K ("TooMany", some "__init__")) ["self", "what", "count"] [] := (F_TooMany___init__ T).bindsN fun _ _ _ _ _ _ us hl => match us, hl with | [_, _, _], _ => rfl
theorem F_Ratio___init__ : FunD K "__init__" "Ratio.__init__" (defArgs s_Ratio___init__) (defBody s_Ratio___init__) (defScope s_Ratio___init__) (d_Ratio___init__.dvs K) [] (He.ma K (He.ga K "Ratio") "__init__") (fdOf K ("Ratio", some "__init__")) := T.fn_ 3 (d := d_Ratio___init__) rfl
theorem F_count_ratio : FunD K "count_ratio" "count_ratio" (defArgs s_count_ratio) (defBody s_count_ratio) (defScope s_count_ratio) (d_count_ratio.dvs K) [] (He.ga K "count_ratio") (fdOf K ("count_ratio", none)) := T.fn_ 4 (d := d_count_ratio) rfl
theorem B_count_ratio : Binds K (fdOf K ("count_ratio", none)) ["part", "whole"] [] := (F_count_ratio T).bindsN fun _ _ _ _ _ _ us hl => match us, hl with | [_, _], _ => rfl
theorem F_is_whole : FunD K "is_whole" "is_whole" (defArgs s_is_whole) (defBody s_is_whole) (defScope s_is_whole) (d_is_whole.dvs K) [] (He.ga K "is_whole") (fdOf K ("is_whole", none)) := T.fn_ 5 (d := d_is_whole) rfl
theorem B_is_whole : Binds K (fdOf K ("is_whole", none)) ["value"] [] := (F_is_whole T).bindsN fun _ _ _ _ _ _ us hl => match us, hl with | [_], _ => rfl
theorem F_is_number : FunD K "is_number" "is_number" (defArgs s_is_number) (defBody s_is_number) (defScope s_is_number) (d_is_number.dvs K) [] (He.ga K "is_number") (fdOf K ("is_number", none)) := T.fn_ 6 (d := d_is_number) rfl
theorem B_is_number : Binds K (fdOf K ("is_number", none)) ["value", "least", "most"] [] := (F_is_number T).bindsN fun _ _ _ _ _ _ us hl => match us, hl with | [_, _, _], _ => rfl
theorem F_is_sizes : FunD K "is_sizes" "is_sizes" (defArgs s_is_sizes) (defBody s_is_sizes) (defScope s_is_sizes) (d_is_sizes.dvs K) [] (He.ga K "is_sizes") (fdOf K ("is_sizes", none)) := T.fn_ 7 (d := d_is_sizes) rfl
theorem B_is_sizes : Binds K (fdOf K ("is_sizes", none)) ["value"] [] := (F_is_sizes T).bindsN fun _ _ _ _ _ _ us hl => match us, hl with | [_], _ => rfl
theorem F_sign_count : FunD K "sign_count" "sign_count" (defArgs s_sign_count) (defBody s_sign_count) (defScope s_sign_count) (d_sign_count.dvs K) [] (He.ga K "sign_count") (fdOf K ("sign_count", none)) := T.fn_ 8 (d := d_sign_count) rfl
theorem B_sign_count : Binds K (fdOf K ("sign_count", none)) ["sizes"] [] := (F_sign_count T).bindsN fun _ _ _ _ _ _ us hl => match us, hl with | [_], _ => rfl
theorem F__are_values : FunD K "_are_values" "_are_values" (defArgs s__are_values) (defBody s__are_values) (defScope s__are_values) (d__are_values.dvs K) [] (He.ga K "_are_values") (fdOf K ("_are_values", none)) := T.fn_ 9 (d := d__are_values) rfl
theorem B__are_values : Binds K (fdOf K ("_are_values", none)) ["value", "count", "size"] [] := (F__are_values T).bindsN fun _ _ _ _ _ _ us hl => match us, hl with | [_, _, _], _ => rfl
theorem F__are_reads : FunD K "_are_reads" "_are_reads" (defArgs s__are_reads) (defBody s__are_reads) (defScope s__are_reads) (d__are_reads.dvs K) [] (He.ga K "_are_reads") (fdOf K ("_are_reads", none)) := T.fn_ 10 (d := d__are_reads) rfl
theorem B__are_reads : Binds K (fdOf K ("_are_reads", none)) ["sizes", "track", "value"] [] := (F__are_reads T).bindsN fun _ _ _ _ _ _ us hl => match us, hl with | [_, _, _], _ => rfl
theorem F__is_add : FunD K "_is_add" "_is_add" (defArgs s__is_add) (defBody s__is_add) (defScope s__is_add) (d__is_add.dvs K) [] (He.ga K "_is_add") (fdOf K ("_is_add", none)) := T.fn_ 11 (d := d__is_add) rfl
theorem B__is_add : Binds K (fdOf K ("_is_add", none)) ["sizes", "value"] [] := (F__is_add T).bindsN fun _ _ _ _ _ _ us hl => match us, hl with | [_, _], _ => rfl
theorem F_is_deed : FunD K "is_deed" "is_deed" (defArgs s_is_deed) (defBody s_is_deed) (defScope s_is_deed) (d_is_deed.dvs K) [] (He.ga K "is_deed") (fdOf K ("is_deed", none)) := T.fn_ 12 (d := d_is_deed) rfl
theorem B_is_deed : Binds K (fdOf K ("is_deed", none)) ["sizes", "value"] [] := (F_is_deed T).bindsN fun _ _ _ _ _ _ us hl => match us, hl with | [_, _], _ => rfl
theorem F_inverse_deed : FunD K "inverse_deed" "inverse_deed" (defArgs s_inverse_deed) (defBody s_inverse_deed) (defScope s_inverse_deed) (d_inverse_deed.dvs K) [] (He.ga K "inverse_deed") (fdOf K ("inverse_deed", none)) := T.fn_ 13 (d := d_inverse_deed) rfl
theorem B_inverse_deed : Binds K (fdOf K ("inverse_deed", none)) ["sizes", "deed"] [] := (F_inverse_deed T).bindsN fun _ _ _ _ _ _ us hl => match us, hl with | [_, _], _ => rfl
theorem F_deed_span : FunD K "deed_span" "deed_span" (defArgs s_deed_span) (defBody s_deed_span) (defScope s_deed_span) (d_deed_span.dvs K) [] (He.ga K "deed_span") (fdOf K ("deed_span", none)) := T.fn_ 14 (d := d_deed_span) rfl
theorem B_deed_span : Binds K (fdOf K ("deed_span", none)) ["sizes", "deed"] [] := (F_deed_span T).bindsN fun _ _ _ _ _ _ us hl => match us, hl with | [_, _], _ => rfl
theorem F_deed_text : FunD K "deed_text" "deed_text" (defArgs s_deed_text) (defBody s_deed_text) (defScope s_deed_text) (d_deed_text.dvs K) [] (He.ga K "deed_text") (fdOf K ("deed_text", none)) := T.fn_ 15 (d := d_deed_text) rfl
theorem B_deed_text : Binds K (fdOf K ("deed_text", none)) ["deed"] [] := (F_deed_text T).bindsN fun _ _ _ _ _ _ us hl => match us, hl with | [_], _ => rfl
theorem F_track_values : FunD K "track_values" "track_values" (defArgs s_track_values) (defBody s_track_values) (defScope s_track_values) (d_track_values.dvs K) [] (He.ga K "track_values") (fdOf K ("track_values", none)) := T.fn_ 16 (d := d_track_values) rfl
theorem B_track_values : Binds K (fdOf K ("track_values", none)) ["sizes", "sign"] [] := (F_track_values T).bindsN fun _ _ _ _ _ _ us hl => match us, hl with | [_, _], _ => rfl
theorem F_sign_of : FunD K "sign_of" "sign_of" (defArgs s_sign_of) (defBody s_sign_of) (defScope s_sign_of) (d_sign_of.dvs K) [] (He.ga K "sign_of") (fdOf K ("sign_of", none)) := T.fn_ 17 (d := d_sign_of) rfl
theorem B_sign_of : Binds K (fdOf K ("sign_of", none)) ["sizes", "values"] [] := (F_sign_of T).bindsN fun _ _ _ _ _ _ us hl => match us, hl with | [_, _], _ => rfl
theorem F_int_power : FunD K "int_power" "int_power" (defArgs s_int_power) (defBody s_int_power) (defScope s_int_power) (d_int_power.dvs K) [] (He.ga K "int_power") (fdOf K ("int_power", none)) := T.fn_ 18 (d := d_int_power) rfl
theorem B_int_power : Binds K (fdOf K ("int_power", none)) ["base", "exponent"] [] := (F_int_power T).bindsN fun _ _ _ _ _ _ us hl => match us, hl with | [_, _], _ => rfl
theorem F__total_span : FunD K "_total_span" "_total_span" (defArgs s__total_span) (defBody s__total_span) (defScope s__total_span) (d__total_span.dvs K) [] (He.ga K "_total_span") (fdOf K ("_total_span", none)) := T.fn_ 19 (d := d__total_span) rfl
theorem B__total_span : Binds K (fdOf K ("_total_span", none)) ["sizes", "deeds"] [] := (F__total_span T).bindsN fun _ _ _ _ _ _ us hl => match us, hl with | [_, _], _ => rfl
theorem F__total_flow : FunD K "_total_flow" "_total_flow" (defArgs s__total_flow) (defBody s__total_flow) (defScope s__total_flow) (d__total_flow.dvs K) [] (He.ga K "_total_flow") (fdOf K ("_total_flow", none)) := T.fn_ 20 (d := d__total_flow) rfl
theorem B__total_flow : Binds K (fdOf K ("_total_flow", none)) ["sizes", "deeds"] [] := (F__total_flow T).bindsN fun _ _ _ _ _ _ us hl => match us, hl with | [_, _], _ => rfl
theorem F_Program___init__ : FunD K "__init__" "Program.__init__" (defArgs s_Program___init__) (defBody s_Program___init__) (defScope s_Program___init__) (d_Program___init__.dvs K) [] (He.ma K (He.ga K "Program") "__init__") (fdOf K ("Program", some "__init__")) := T.fn_ 21 (d := d_Program___init__) rfl
theorem F_Program_deeds : FunD K "deeds" "Program.deeds" (defArgs s_Program_deeds) (defBody s_Program_deeds) (defScope s_Program_deeds) (d_Program_deeds.dvs K) [] (He.ma K (He.ga K "Program") "deeds") (fdOf K ("Program", some "deeds")) := T.fn_ 22 (d := d_Program_deeds) rfl
theorem B_Program_deeds : Binds K (fdOf K ("Program", some "deeds")) ["self"] [] := (F_Program_deeds T).bindsN fun _ _ _ _ _ _ us hl => match us, hl with | [_], _ => rfl
theorem F__law_bag : FunD K "_law_bag" "_law_bag" (defArgs s__law_bag) (defBody s__law_bag) (defScope s__law_bag) (d__law_bag.dvs K) [] (He.ga K "_law_bag") (fdOf K ("_law_bag", none)) := T.fn_ 23 (d := d__law_bag) rfl
theorem B__law_bag : Binds K (fdOf K ("_law_bag", none)) ["_law_script"] [] := (F__law_bag T).bindsN fun _ _ _ _ _ _ us hl => match us, hl with | [_], _ => rfl
theorem F__law_draw : FunD K "_law_draw" "_law_draw" (defArgs s__law_draw) (defBody s__law_draw) (defScope s__law_draw) (d__law_draw.dvs K) [] (He.ga K "_law_draw") (fdOf K ("_law_draw", none)) := T.fn_ 24 (d := d__law_draw) rfl
theorem B__law_draw : Binds K (fdOf K ("_law_draw", none)) ["_law_bag_here", "_law_many"] [] := (F__law_draw T).bindsN fun _ _ _ _ _ _ us hl => match us, hl with | [_, _], _ => rfl
theorem F__law_of : FunD K "_law_of" "_law_of" (defArgs s__law_of) (defBody s__law_of) (defScope s__law_of) (d__law_of.dvs K) [] (He.ga K "_law_of") (fdOf K ("_law_of", none)) := T.fn_ 25 (d := d__law_of) rfl
theorem B__law_of : Binds K (fdOf K ("_law_of", none)) ["_law_bag_here", "_law_things"] [] := (F__law_of T).bindsN fun _ _ _ _ _ _ us hl => match us, hl with | [_, _], _ => rfl
theorem F__law_like : FunD K "_law_like" "_law_like" (defArgs s__law_like) (defBody s__law_like) (defScope s__law_like) (d__law_like.dvs K) [] (He.ga K "_law_like") (fdOf K ("_law_like", none)) := T.fn_ 26 (d := d__law_like) rfl
theorem B__law_like : Binds K (fdOf K ("_law_like", none)) ["_law_found", "_law_due"] [] := (F__law_like T).bindsN fun _ _ _ _ _ _ us hl => match us, hl with | [_, _], _ => rfl
theorem F__law_fault : FunD K "_law_fault" "_law_fault" (defArgs s__law_fault) (defBody s__law_fault) (defScope s__law_fault) (d__law_fault.dvs K) [] (He.ga K "_law_fault") (fdOf K ("_law_fault", none)) := T.fn_ 27 (d := d__law_fault) rfl
theorem B__law_fault : Binds K (fdOf K ("_law_fault", none)) ["_law_error"] [] := (F__law_fault T).bindsN fun _ _ _ _ _ _ us hl => match us, hl with | [_], _ => rfl
theorem F__law_ask : FunD K "_law_ask" "_law_ask" (defArgs s__law_ask) (defBody s__law_ask) (defScope s__law_ask) (d__law_ask.dvs K) [] (He.ga K "_law_ask") (fdOf K ("_law_ask", none)) := T.fn_ 28 (d := d__law_ask) rfl
theorem B__law_ask : Binds K (fdOf K ("_law_ask", none)) ["_law_deed_here"] [] := (F__law_ask T).bindsN fun _ _ _ _ _ _ us hl => match us, hl with | [_], _ => rfl
theorem F__law_product : FunD K "_law_product" "_law_product" (defArgs s__law_product) (defBody s__law_product) (defScope s__law_product) (d__law_product.dvs K) [] (He.ga K "_law_product") (fdOf K ("_law_product", none)) := T.fn_ 29 (d := d__law_product) rfl
theorem B__law_product : Binds K (fdOf K ("_law_product", none)) ["_law_numbers"] [] := (F__law_product T).bindsN fun _ _ _ _ _ _ us hl => match us, hl with | [_], _ => rfl
theorem F__law_parts : FunD K "_law_parts" "_law_parts" (defArgs s__law_parts) (defBody s__law_parts) (defScope s__law_parts) (d__law_parts.dvs K) [] (He.ga K "_law_parts") (fdOf K ("_law_parts", none)) := T.fn_ 30 (d := d__law_parts) rfl
theorem B__law_parts : Binds K (fdOf K ("_law_parts", none)) ["_law_sizes_here", "_law_sign"] [] := (F__law_parts T).bindsN fun _ _ _ _ _ _ us hl => match us, hl with | [_, _], _ => rfl
theorem F__law_span : FunD K "_law_span" "_law_span" (defArgs s__law_span) (defBody s__law_span) (defScope s__law_span) (d__law_span.dvs K) [] (He.ga K "_law_span") (fdOf K ("_law_span", none)) := T.fn_ 31 (d := d__law_span) rfl
theorem B__law_span : Binds K (fdOf K ("_law_span", none)) ["_law_sizes_here", "_law_deed_here"] [] := (F__law_span T).bindsN fun _ _ _ _ _ _ us hl => match us, hl with | [_, _], _ => rfl
theorem F__law_undone : FunD K "_law_undone" "_law_undone" (defArgs s__law_undone) (defBody s__law_undone) (defScope s__law_undone) (d__law_undone.dvs K) [] (He.ga K "_law_undone") (fdOf K ("_law_undone", none)) := T.fn_ 32 (d := d__law_undone) rfl
theorem B__law_undone : Binds K (fdOf K ("_law_undone", none)) ["_law_sizes_here", "_law_deed_here"] [] := (F__law_undone T).bindsN fun _ _ _ _ _ _ us hl => match us, hl with | [_, _], _ => rfl
theorem F__law_reads : FunD K "_law_reads" "_law_reads" (defArgs s__law_reads) (defBody s__law_reads) (defScope s__law_reads) (d__law_reads.dvs K) [] (He.ga K "_law_reads") (fdOf K ("_law_reads", none)) := T.fn_ 33 (d := d__law_reads) rfl
theorem B__law_reads : Binds K (fdOf K ("_law_reads", none)) ["_law_bag_here", "_law_sizes_here", "_law_track", "_law_far", "_law_most_reads"] [] := (F__law_reads T).bindsN fun _ _ _ _ _ _ us hl => match us, hl with | [_, _, _, _, _], _ => rfl
theorem F__law_swap : FunD K "_law_swap" "_law_swap" (defArgs s__law_swap) (defBody s__law_swap) (defScope s__law_swap) (d__law_swap.dvs K) [] (He.ga K "_law_swap") (fdOf K ("_law_swap", none)) := T.fn_ 34 (d := d__law_swap) rfl
theorem B__law_swap : Binds K (fdOf K ("_law_swap", none)) ["_law_bag_here", "_law_many"] [] := (F__law_swap T).bindsN fun _ _ _ _ _ _ us hl => match us, hl with | [_, _], _ => rfl
theorem F__law_deed : FunD K "_law_deed" "_law_deed" (defArgs s__law_deed) (defBody s__law_deed) (defScope s__law_deed) (d__law_deed.dvs K) [] (He.ga K "_law_deed") (fdOf K ("_law_deed", none)) := T.fn_ 35 (d := d__law_deed) rfl
theorem B__law_deed : Binds K (fdOf K ("_law_deed", none)) ["_law_bag_here", "_law_sizes_here", "_law_far", "_law_most_reads"] [] := (F__law_deed T).bindsN fun _ _ _ _ _ _ us hl => match us, hl with | [_, _, _, _], _ => rfl
theorem F__law_deed_text : FunD K "_law_deed_text" "_law_deed_text" (defArgs s__law_deed_text) (defBody s__law_deed_text) (defScope s__law_deed_text) (d__law_deed_text.dvs K) [] (He.ga K "_law_deed_text") (fdOf K ("_law_deed_text", none)) := T.fn_ 36 (d := d__law_deed_text) rfl
theorem B__law_deed_text : Binds K (fdOf K ("_law_deed_text", none)) ["_law_deed_here"] [] := (F__law_deed_text T).bindsN fun _ _ _ _ _ _ us hl => match us, hl with | [_], _ => rfl
theorem F__law_whole : FunD K "_law_whole" "_law_whole" (defArgs s__law_whole) (defBody s__law_whole) (defScope s__law_whole) (d__law_whole.dvs K) [] (He.ga K "_law_whole") (fdOf K ("_law_whole", none)) := T.fn_ 37 (d := d__law_whole) rfl
theorem B__law_whole : Binds K (fdOf K ("_law_whole", none)) ["_law_thing", "_law_low", "_law_high"] [] := (F__law_whole T).bindsN fun _ _ _ _ _ _ us hl => match us, hl with | [_, _, _], _ => rfl
theorem F__law_sizes_right : FunD K "_law_sizes_right" "_law_sizes_right" (defArgs s__law_sizes_right) (defBody s__law_sizes_right) (defScope s__law_sizes_right) (d__law_sizes_right.dvs K) [] (He.ga K "_law_sizes_right") (fdOf K ("_law_sizes_right", none)) := T.fn_ 38 (d := d__law_sizes_right) rfl
theorem B__law_sizes_right : Binds K (fdOf K ("_law_sizes_right", none)) ["_law_thing"] [] := (F__law_sizes_right T).bindsN fun _ _ _ _ _ _ us hl => match us, hl with | [_], _ => rfl
theorem F__law_reads_right : FunD K "_law_reads_right" "_law_reads_right" (defArgs s__law_reads_right) (defBody s__law_reads_right) (defScope s__law_reads_right) (d__law_reads_right.dvs K) [] (He.ga K "_law_reads_right") (fdOf K ("_law_reads_right", none)) := T.fn_ 39 (d := d__law_reads_right) rfl
theorem B__law_reads_right : Binds K (fdOf K ("_law_reads_right", none)) ["_law_sizes_here", "_law_track", "_law_reads_here"] [] := (F__law_reads_right T).bindsN fun _ _ _ _ _ _ us hl => match us, hl with | [_, _, _], _ => rfl
theorem F__law_right : FunD K "_law_right" "_law_right" (defArgs s__law_right) (defBody s__law_right) (defScope s__law_right) (d__law_right.dvs K) [] (He.ga K "_law_right") (fdOf K ("_law_right", none)) := T.fn_ 40 (d := d__law_right) rfl
theorem B__law_right : Binds K (fdOf K ("_law_right", none)) ["_law_sizes_here", "_law_thing"] [] := (F__law_right T).bindsN fun _ _ _ _ _ _ us hl => match us, hl with | [_, _], _ => rfl
theorem F__law_odd : FunD K "_law_odd" "_law_odd" (defArgs s__law_odd) (defBody s__law_odd) (defScope s__law_odd) (d__law_odd.dvs K) [] (He.ga K "_law_odd") (fdOf K ("_law_odd", none)) := T.fn_ 41 (d := d__law_odd) rfl
theorem B__law_odd : Binds K (fdOf K ("_law_odd", none)) ["_law_bag_here", "_law_sizes_here"] [] := (F__law_odd T).bindsN fun _ _ _ _ _ _ us hl => match us, hl with | [_, _], _ => rfl
theorem F__law_tuple_bent : FunD K "_law_tuple_bent" "_law_tuple_bent" (defArgs s__law_tuple_bent) (defBody s__law_tuple_bent) (defScope s__law_tuple_bent) (d__law_tuple_bent.dvs K) [] (He.ga K "_law_tuple_bent") (fdOf K ("_law_tuple_bent", none)) := T.fn_ 42 (d := d__law_tuple_bent) rfl
theorem B__law_tuple_bent : Binds K (fdOf K ("_law_tuple_bent", none)) ["_law_bag_here", "_law_sizes_here", "_law_some"] [] := (F__law_tuple_bent T).bindsN fun _ _ _ _ _ _ us hl => match us, hl with | [_, _, _], _ => rfl
theorem F__law_bent : FunD K "_law_bent" "_law_bent" (defArgs s__law_bent) (defBody s__law_bent) (defScope s__law_bent) (d__law_bent.dvs K) [] (He.ga K "_law_bent") (fdOf K ("_law_bent", none)) := T.fn_ 43 (d := d__law_bent) rfl
theorem B__law_bent : Binds K (fdOf K ("_law_bent", none)) ["_law_bag_here", "_law_sizes_here", "_law_deed_here"] [] := (F__law_bent T).bindsN fun _ _ _ _ _ _ us hl => match us, hl with | [_, _, _], _ => rfl
theorem F__law_judged : FunD K "_law_judged" "_law_judged" (defArgs s__law_judged) (defBody s__law_judged) (defScope s__law_judged) (d__law_judged.dvs K) [] (He.ga K "_law_judged") (fdOf K ("_law_judged", none)) := T.fn_ 44 (d := d__law_judged) rfl
theorem B__law_judged : Binds K (fdOf K ("_law_judged", none)) ["_law_sizes_here", "_law_thing"] [] := (F__law_judged T).bindsN fun _ _ _ _ _ _ us hl => match us, hl with | [_, _], _ => rfl
theorem F__law_deeds : FunD K "_law_deeds" "_law_deeds" (defArgs s__law_deeds) (defBody s__law_deeds) (defScope s__law_deeds) (d__law_deeds.dvs K) [] (He.ga K "_law_deeds") (fdOf K ("_law_deeds", none)) := T.fn_ 45 (d := d__law_deeds) rfl
theorem B__law_deeds : Binds K (fdOf K ("_law_deeds", none)) ["_law_bag_here", "_law_sizes_here"] [] := (F__law_deeds T).bindsN fun _ _ _ _ _ _ us hl => match us, hl with | [_, _], _ => rfl
theorem F__law_signs : FunD K "_law_signs" "_law_signs" (defArgs s__law_signs) (defBody s__law_signs) (defScope s__law_signs) (d__law_signs.dvs K) [] (He.ga K "_law_signs") (fdOf K ("_law_signs", none)) := T.fn_ 46 (d := d__law_signs) rfl
theorem B__law_signs : Binds K (fdOf K ("_law_signs", none)) ["_law_bag_here", "_law_sizes_here"] [] := (F__law_signs T).bindsN fun _ _ _ _ _ _ us hl => match us, hl with | [_, _], _ => rfl
theorem F__law_sizes : FunD K "_law_sizes" "_law_sizes" (defArgs s__law_sizes) (defBody s__law_sizes) (defScope s__law_sizes) (d__law_sizes.dvs K) [] (He.ga K "_law_sizes") (fdOf K ("_law_sizes", none)) := T.fn_ 47 (d := d__law_sizes) rfl
theorem B__law_sizes : Binds K (fdOf K ("_law_sizes", none)) ["_law_bag_here"] [] := (F__law_sizes T).bindsN fun _ _ _ _ _ _ us hl => match us, hl with | [_], _ => rfl
theorem F_law : FunD K "law" "law" (defArgs s_law) (defBody s_law) (defScope s_law) (d_law.dvs K) [] (He.ga K "law") (fdOf K ("law", none)) := T.fn_ 48 (d := d_law) rfl
theorem B_law : Binds K (fdOf K ("law", none)) ["_law_script"] [] := (F_law T).bindsN fun _ _ _ _ _ _ us hl => match us, hl with | [_], _ => rfl
end
end BF
/-! ## the end, told of what is proved of the law (here: later the text has taken the memory) -/
namespace BF
open PySem PySem.Spec PyProof.Rows L2
theorem tx_of {K : PySem.W.Frag} {h : Heap} {mg : Str → Option Value} {w : World} (X : K.In h) (G : h.Ns mainGlobals mg) (c : He.SaysX fa fn tts tf more w h K) : TT K mg :=
  ⟨c.t.d, c.more, fun x v e => PySem.W.mg_of X G e, fun x e => PySem.W.mg_none_of X G e⟩
end BF
section
open PySem PySem.W PySem.Calls PyProof.Rows
theorem BF.end_top (hlaw : ∀ {w : World} {K : PySem.W.Frag} {h : Heap} {mg : Str → Option Value} (l : PySem.W.OpenLaw), K.In h → h.Ns mainGlobals mg → He.SaysX BF.fa BF.fn BF.tts BF.tf BF.more w h K → LamX.LawAtS l w K (L2.CX l.prog w) 15 63 "_law_script" mg (He.ga K "law") h) : PySem.Challenge.rw_borderflow_k13_deeds_judged.Holds := by
  refine BF.law_top fun said => ?_
  refine HandSHeadRun.head_imp (r := OpenLaw.row PySem.Challenge.rw_borderflow_k13_deeds_judged) (q := view (OpenLaw.row PySem.Challenge.rw_borderflow_k13_deeds_judged).prog [BF.lawAt]) (H := BF.hk) (ob := BF.ob) (M := 7000) (loose := BF.loose) (d := HandSHeadRun.topDef (OpenLaw.row PySem.Challenge.rw_borderflow_k13_deeds_judged).prog BF.lawAt) (kwd := [])
    BF.ob_eq BF.run (by kernel_rfl) (by kernel_rfl) (by kernel_rfl) (by rfl) (by first | assumption | decide +kernel) (by decide +kernel) ⟨rfl, rfl, rfl, rfl, rfl, by decide +kernel⟩ ?hw ?hc
  case hw => w_witness2
  case hc =>
    refine LamX.walk_ofTsE (l := PySem.Challenge.rw_borderflow_k13_deeds_judged) (n := 63) (k := 15) (x := "_law_script") (CX := fun w => L2.CX PySem.Challenge.rw_borderflow_k13_deeds_judged.prog w) rfl (by decide) (by kernel_rfl) ⟨rfl, by decide, by decide⟩ ?F (fun _ _ _ _ _ ⟨_, _, _, _, _, _, _, _, _, _, _, _, z⟩ => z)
    intro w mg at_ h ⟨K, KX, c⟩ G q0
    have q1 : mg ("law" : PySem.Str) = some (.ref at_) := by
      rw [← show (HandSHeadRun.topDef (OpenLaw.row PySem.Challenge.rw_borderflow_k13_deeds_judged).prog BF.lawAt).name = ("law" : PySem.Str) from by kernel_rfl]
      exact q0
    cases q1.symm.trans ((BF.tx_of KX G c).glo "law" rfl)
    exact ⟨K, KX, hlaw _ KX G c⟩
end
/-! macros: lk (a fact of an earlier heap), nm (not among), st (a step), sts (steps) -/
local macro_rules | `(tactic| walk_at "nm") => `(tactic| first | exact List.not_mem_nil | assumption | (simp only [List.mem_cons, List.not_mem_nil, or_false, not_or]; first | assumption | (refine ⟨?_, ?_⟩ <;> assumption) | (intro h; subst h; simp_all)))
local macro_rules | `(tactic| walk_at "lk") => `(tactic| first
  | assumption
  | (apply BF.sql_of; walk_at "lk1")
  | (apply BF.sqt_of; walk_at "lk1")
  | (refine BF.sql_ex (by assumption) ?_ ?_; (walk_at "nm"); (walk_at "lk"))
  | (refine BF.sqt_ex (by assumption) ?_ ?_; (walk_at "nm"); (walk_at "lk"))
  | (apply BF.sql_ex; (assumption); (walk_at "nm"); (walk_at "lk"))
  | (apply BF.sqt_ex; (assumption); (walk_at "nm"); (walk_at "lk"))
  | walk_at "lk1")
local macro_rules | `(tactic| walk_at "lk1") => `(tactic| first
  | assumption
  | exact L2.upd_same
  | (apply BF.at_ex; (assumption); (walk_at "nm"); (walk_at "lk1"))
  | (rw [L2.upd_ne (by assumption)]; walk_at "lk1")
  | (rw [L2.upd_ne (Ne.symm (by assumption))]; walk_at "lk1"))
local macro_rules | `(tactic| walk_at "ss") => `(tactic| first | (intro _ h; cases h; done) | (intro _ h; assumption) | (intro _ h; exact h) | (intro _ h; simp only [List.mem_cons, List.not_mem_nil, or_false] at h ⊢; simp_all))
local macro_rules | `(tactic| walk_at "ex") => `(tactic| first
  | assumption
  | exact BF.Ex.refl _
  | (refine' BF.Ex.st (by assumption) ?_ ?_; (walk_at "ss"); (walk_at "ex")))
local macro_rules | `(tactic| walk_at "sset") => `(tactic| (first | (simp only [List.set_cons_succ, List.set_cons_zero]; done) | (simp only [List.set_cons_succ, List.set_cons_zero]; rfl) | rfl))
local macro_rules | `(tactic| walk_at "st") => `(tactic| (with_reducible first
  | refine' BF.x_seq ?_
  | refine' BF.x_asg ?_
  | (refine' BF.x_var (by with_unfolding_all rfl) ?_)
  | refine' BF.x_c ?_
  | refine' BF.x_op ?_
  | refine' BF.x_cons ?_
  | refine' BF.x_nil ?_
  | refine' BF.x_addI ?_
  | refine' BF.x_I0 ?_
  | refine' BF.x_intc ?_
  | refine' BF.x_int ?_
  | refine' BF.x_cb ?_
  | refine' BF.x_call ?_
  | refine' BF.x_ret ?_
  | refine' BF.x_ifS ?_
  | refine' BF.x_test ?_
  | refine' BF.x_B ?_
  | refine' BF.x_bl ?_
  | refine' BF.x_blV ?_
  | refine' BF.x_and ?_
  | refine' BF.x_or ?_
  | refine' BF.x_not ?_
  | refine' BF.x_if ?_
  | refine' BF.x_andV ?_
  | refine' BF.x_orV ?_
  | refine' BF.x_notV ?_
  | refine' BF.x_eqI ?_
  | refine' BF.x_neI ?_
  | refine' BF.x_eqB ?_
  | refine' BF.x_eqS ?_
  | refine' BF.x_neS ?_
  | refine' BF.x_neB ?_
  | refine' BF.x_un ?_
  | refine' BF.x_U ?_
  | refine' BF.x_gsub ?_
  | refine' BF.x_sl ?_
  | refine' BF.x_part ?_
  | refine' BF.x_nopart ?_
  | refine' BF.x_tup ?_
  | refine' BF.x_tupE ?_
  | refine' BF.x_lstE ?_
  | refine' BF.x_lst ?_
  | refine' BF.x_next ?_
  | refine' BF.x_drop ?_
  | refine' BF.x_retN ?_
  | refine' BF.x_isNo ?_
  | refine' BF.x_notNo ?_
  | refine' BF.x_abs ?_
  | refine' BF.x_bm ?_
  | refine' BF.x_bm0 ?_
  | refine' BF.x_gcons ?_
  | refine' BF.x_gnil ?_
  | refine' BF.x_par ?_
  | refine' BF.x_par2 ?_
  | refine' BF.x_brk ?_
  | refine' BF.x_cnt ?_
  | refine' BF.x_for ?_
  | refine' BF.x_ilist ?_
  | refine' BF.x_itup ?_
  | refine' BF.x_irng ?_
  | refine' BF.x_izipA ?_
  | refine' BF.x_lc ?_
  | refine' BF.x_yes ?_
  | refine' BF.x_ost ?_
  | refine' BF.x_rs ?_
  | refine' BF.x_chain ?_
  | refine' BF.x_ipI ?_
  | (refine' BF.x_aug (by with_unfolding_all rfl) ?_)
  | refine' BF.x_fld ?_
  | refine' BF.x_sfld ?_
  | refine' BF.x_meth ?_
  | refine' BF.x_make ?_
  | refine' BF.x_gcd ?_
  | refine' BF.x_iteY ?_
  | refine' BF.x_iteNo ?_))
local macro_rules | `(tactic| walk_at "gn") => `(tactic| ((with_reducible apply BF.x_gname); (walk_at "sset")))
local macro_rules | `(tactic| walk_at "go") => `(tactic| repeat (first | walk_at "st" | walk_at "gn"))
local macro_rules | `(tactic| walk_at "in") => `(tactic| (dsimp only [L2.cxOf, L2.Cx.nox, L2.Cx.wish, L2.start]; dsimp only [List.map, List.append_eq, List.append, HAppend.hAppend, Append.append, List.length_cons, List.length_nil, List.cons_append, List.nil_append, List.replicate_succ, List.replicate_zero, Nat.reduceAdd, Nat.reduceSub, List.append_nil, Nat.zero_add]))
local macro_rules | `(tactic| walk_at "il") => `(tactic| first
  | ((with_reducible apply BF.x_ixL); (walk_at "lk"); (with_unfolding_all rfl))
  | ((with_reducible apply BF.x_ixT); (walk_at "lk"); (with_unfolding_all rfl)))
local macro_rules | `(tactic| walk_at "len") => `(tactic| first
  | ((with_reducible apply BF.x_lenL); (walk_at "lk"))
  | ((with_reducible apply BF.x_lenT); (walk_at "lk")))
local macro_rules | `(tactic| walk_at "lset") => `(tactic| first | (simp only [Int.reduceToNat, Int.toNat_zero, Int.toNat_one, List.set_cons_succ, List.set_cons_zero]; done) | (simp only [Int.reduceToNat, Int.toNat_zero, Int.toNat_one, List.set_cons_succ, List.set_cons_zero]; rfl) | rfl)
local macro_rules | `(tactic| walk_at "sl") => `(tactic| ((with_reducible apply BF.x_setL2); (walk_at "lk1"); (with_unfolding_all rfl); (walk_at "lset"); (intro _ _ _)))
local macro_rules | `(tactic| walk_at "al") => `(tactic| ((with_reducible apply BF.x_len1); (simp only [List.length_cons, List.length_nil]; omega); (intro _ _ _ _ _)))
local macro_rules | `(tactic| walk_at "slc") => `(tactic| ((with_reducible apply BF.x_slL); (walk_at "lk"); (intro _ _ _ _ _)))
local macro_rules | `(tactic| walk_at "lst") => `(tactic| first
  | ((with_reducible apply BF.x_listL); (walk_at "lk"); (intro _ _ _ _ _))
  | ((with_reducible apply BF.x_listT); (walk_at "lk"); (intro _ _ _ _ _))
  | ((with_reducible apply BF.x_tupL); (walk_at "lk"); (intro _ _ _ _ _))
  | ((with_reducible apply BF.x_tupT); (walk_at "lk")))
local macro_rules | `(tactic| walk_at "app") => `(tactic| ((with_reducible apply BF.x_tyL); (walk_at "lk1")))
local macro_rules | `(tactic| walk_at "ol") => `(tactic| first
  | ((with_reducible apply BF.x_onList); (walk_at "lk"))
  | ((with_reducible apply BF.x_onTup); (walk_at "lk"))
  | ((with_reducible apply BF.x_onRng); omega; omega)
  | ((with_reducible apply BF.x_onZipL); (walk_at "lk"); (walk_at "lk"))
  | ((with_reducible apply BF.x_onZipT); (walk_at "lk"); (walk_at "lk")))
local macro_rules | `(tactic| walk_at "ty") => `(tactic| first
  | assumption
  | exact L2.TyX.base .non
  | exact L2.TyX.base (.bl _)
  | exact L2.TyX.base (.int _)
  | exact L2.TyX.base (.str _)
  | (refine BF.ty_sqL ?_; walk_at "lk")
  | (refine BF.ty_sqT ?_; walk_at "lk")
  | (apply BF.ty_sqL; walk_at "lk")
  | (apply BF.ty_sqT; walk_at "lk"))
local macro_rules | `(tactic| walk_at "kb") => `(tactic| first
  | exact BF.kb_NoneType_list
  | exact BF.kb_NoneType_tuple
  | exact BF.kb_NoneType_bool
  | exact BF.kb_NoneType_str
  | exact BF.kb_NoneType_int
  | exact BF.kb_bool_list
  | exact BF.kb_bool_tuple
  | exact BF.kb_bool_bool
  | exact BF.kb_bool_str
  | exact BF.kb_bool_int
  | exact BF.kb_int_list
  | exact BF.kb_int_tuple
  | exact BF.kb_int_bool
  | exact BF.kb_int_str
  | exact BF.kb_int_int
  | exact BF.kb_str_list
  | exact BF.kb_str_tuple
  | exact BF.kb_str_bool
  | exact BF.kb_str_str
  | exact BF.kb_str_int
  | exact BF.kb_list_list
  | exact BF.kb_list_tuple
  | exact BF.kb_list_bool
  | exact BF.kb_list_str
  | exact BF.kb_list_int
  | exact BF.kb_tuple_list
  | exact BF.kb_tuple_tuple
  | exact BF.kb_tuple_bool
  | exact BF.kb_tuple_str
  | exact BF.kb_tuple_int)
local macro_rules | `(tactic| walk_at "is") => `(tactic| first
  | ((with_reducible apply BF.x_isi); (walk_at "ty"); (walk_at "kb"))
  | ((with_reducible apply BF.x_isiLT); (walk_at "ty"); (walk_at "lk1"); (walk_at "kb"); (walk_at "kb")))
local macro_rules | `(tactic| walk_at "ar") => `(tactic| first
  | ((with_reducible refine BF.cpow_of ?_ ?_ ?_ ?_) <;> omega)
  | ((with_reducible refine BF.cmul_of ?_ ?_ ?_ ?_) <;> omega)
  | ((with_reducible refine BF.cdiv_of ?_ ?_) <;> omega)
  | (show (0 : Int) < _; omega))
local macro_rules | `(tactic| walk_at "xi") => `(tactic| ((with_reducible refine' BF.x_I ?_ ?_); (walk_at "ar")))
local macro_rules | `(tactic| walk_at "gt") => `(tactic| ((with_reducible apply BF.x_gtup); (walk_at "lk"); (with_unfolding_all rfl)))
local macro_rules | `(tactic| walk_at "dec") => `(tactic| first
  | with_reducible refine' BF.x_iteT (by with_unfolding_all rfl) ?_
  | with_reducible refine' BF.x_iteF (by with_unfolding_all rfl) ?_
  | with_reducible refine' BF.x_iteT (decide_eq_true rfl) ?_)
local macro_rules | `(tactic| walk_at "pf") => `(tactic| first
  | exact BF.putF_nil
  | exact BF.putF_eq
  | (apply BF.putF_ne; (decide); (walk_at "pf")))
local macro_rules | `(tactic| walk_at "ob") => `(tactic| first
  | ((with_reducible apply BF.x_fldR); (walk_at "lk1"); (assumption); (assumption); (with_unfolding_all rfl))
  | ((with_reducible apply BF.x_sfldR); (walk_at "lk1"); (assumption); (assumption); (simp only [List.length_cons, List.length_nil]; omega); (walk_at "pf"); (intro _ _ _))
  | ((with_reducible apply BF.x_methR); (walk_at "lk1"); (with_unfolding_all rfl)))
local macro_rules | `(tactic| walk_at "os") => `(tactic| first
  | ((with_reducible apply BF.x_ost1); (assumption); (assumption); (assumption); (intro _ _ _ _ _ _ _))
  | ((with_reducible apply BF.x_ost2); (assumption); (assumption); (simp only [List.length_cons, List.length_nil]; omega); (assumption); (assumption); (assumption); (intro _ _ _ _)))
local macro_rules | `(tactic| walk_at "gg") => `(tactic| repeat (first | walk_at "st" | walk_at "gn" | walk_at "il" | walk_at "len" | walk_at "sl" | walk_at "al" | walk_at "xi" | walk_at "slc" | walk_at "lst" | walk_at "ol" | walk_at "app" | walk_at "is" | walk_at "gt" | walk_at "dec" | walk_at "ob" | walk_at "os"))
/-! ## Values apart from the heap: data, what stays, the state of a def that runs -/
namespace VF
open PySem PySem.Spec PyProof.Rows L2
/-- data: a value with all that hangs on it; bag: the draws' own list, known by its place alone -/
inductive DV where
  | non | bl (b : Bool) | int (i : Int) | str (x : Str) | lst (ds : List DV) | tup (ds : List DV)
  | ins (c : Str) (ns : List Str) (ds : List DV) | exc (c : Str) (ns : List Str) (ds : List DV)
  | bag | ty (n : String) | cls (c : Str)
  | tupz (ds : List DV) -- a tuple of which is known that it has no dict
/-- all stays but what M names, and tables -/
def Ey (M : List Addr) (H H' : Hp) : Prop := ∀ x o, x ∉ M → H x = some o → (∀ ps, o ≠ .tbl ps) → H' x = some o
theorem Ey.refl {M : List Addr} (H : Hp) : Ey M H H := fun _ _ _ h _ => h
theorem Ey.tr {M : List Addr} {H H1 H2 : Hp} (a : Ey M H H1) (b : Ey M H1 H2) : Ey M H H2 := fun x o n h t => b x o n (a x o n h t) t
theorem Ey.sub {M M' : List Addr} {H H' : Hp} (h : Ey M H H') (s : ∀ x ∈ M, x ∈ M') : Ey M' H H' := fun x o n e t => h x o (fun z => n (s x z)) e t
theorem Ey.ex {M : List Addr} {H H' : Hp} (h : BF.Ex M H H') : Ey M H H' := fun x o n e _ => h x o n e
theorem Ey.ex0 {M : List Addr} {H H' : Hp} (h : BF.Ex [] H H') : Ey M H H' := fun x o _ e _ => h x o (by simp) e
theorem Ey.N {M : List Addr} {H H' : Hp} (h : LamX.ExtN H H') : Ey M H H' := fun x o _ e t => h x o e t

/-- a list, an instance -/
def IsM (o : HO) : Prop := (∃ vs, o = .lst vs) ∨ ∃ C dx fs, o = .ins C dx fs
theorem IsM.nt {o : HO} (h : IsM o) : ∀ ps, o ≠ .tbl ps := by
  rcases h with ⟨vs, rfl⟩ | ⟨C, dx, fs, rfl⟩ <;> exact nofun
/-- the addresses of M are taken, by lists and instances -/
def AlN (M : List Addr) (H : Hp) : Prop := ∀ x ∈ M, ∃ o, H x = some o ∧ IsM o
theorem AlN.ntup {M : List Addr} {H H' : Hp} {p : Addr} {xs : List V} (a : AlN M H) (e : BF.Ex [] H H') (h : H' p = some (.tup xs)) : p ∉ M := fun z => by
  obtain ⟨o, k, m⟩ := a p z
  rw [e _ _ (by simp) k] at h
  cases h
  rcases m with ⟨vs, m⟩ | ⟨C, dx, fs, m⟩ <;> cases m
theorem AlN.out {M : List Addr} {H : Hp} {p : Addr} (a : AlN M H) (h : H p = none) : p ∉ M := fun z => by
  obtain ⟨o, e, _⟩ := a p z
  rw [e] at h
  cases h
def LsM (_K : PySem.W.Frag) (M : List Addr) (H : Hp) (a : Addr) (vs : List V) : Prop := H a = some (.lst vs) ∧ a ∉ M
def TsM (K : PySem.W.Frag) (M : List Addr) (H : Hp) (a : Addr) (vs : List V) : Prop := SqT K H a vs ∧ (a ∈ M → ∀ H', SqT K H' a vs)
section
variable {K : PySem.W.Frag} {M M' : List Addr} {H H' : Hp} {a p : Addr} {vs : List V}
theorem rd_ey {u : HO} (e : Ey M H H') (n : a ∉ M) (t : ∀ ps, u ≠ .tbl ps) (h : Rd H a u) : Rd H' a u := by
  rcases h with h | ⟨o, h⟩
  · exact .inl (e _ _ n h t)
  · exact .inr ⟨o, e _ _ n h nofun⟩
theorem LsM.ey (h : LsM K M H a vs) (e : Ey M H H') : LsM K M H' a vs := ⟨e _ _ h.2 h.1 nofun, h.2⟩
theorem TsM.ey (h : TsM K M H a vs) (e : Ey M H H') : TsM K M H' a vs := by
  refine ⟨?_, h.2⟩
  by_cases n : a ∈ M
  · exact h.2 n H'
  · rcases h.1 with q | q
    · exact .inl (rd_ey e n nofun q)
    · exact .inr q
theorem LsM.sub (h : LsM K M H a vs) (s : ∀ x ∈ M', x ∈ M) : LsM K M' H a vs := ⟨h.1, fun z => h.2 (s _ z)⟩
theorem TsM.sub (h : TsM K M H a vs) (s : ∀ x ∈ M', x ∈ M) : TsM K M' H a vs := ⟨h.1, fun z => h.2 (s _ z)⟩
theorem LsM.fresh (h : LsM K M H a vs) (hp : H p = none) : LsM K (p :: M) H a vs := ⟨h.1, fun z => (List.mem_cons.mp z).elim (fun e => by
  have q := h.1
  rw [e, hp] at q
  cases q) h.2⟩
theorem TsM.fresh (h : TsM K M H a vs) (hp : H p = none) : TsM K (p :: M) H a vs := ⟨h.1, fun z H' => by
  rcases List.mem_cons.mp z with rfl | z
  · rcases h.1 with (q | ⟨o, q⟩) | q
    · rw [hp] at q; cases q
    · rw [hp] at q; cases q
    · exact .inr q
  · exact h.2 z H'⟩
theorem LsM.of (h : H a = some (.lst vs)) (n : a ∉ M) : LsM K M H a vs := ⟨h, n⟩
theorem TsM.of (h : H a = some (.tup vs)) (n : a ∉ M) : TsM K M H a vs := ⟨SqT.of h, fun z => absurd z n⟩
end
mutual
inductive Dat (K : PySem.W.Frag) (b : Addr) (M : List Addr) (H : Hp) : V → DV → Prop
  | non : Dat K b M H .non .non
  | bl (x : Bool) : Dat K b M H (.bl x) (.bl x)
  | int (i : Int) : Dat K b M H (.int i) (.int i)
  | str (x : Str) : Dat K b M H (.str x) (.str x)
  | lst {a : Addr} {vs : List V} {ds : List DV} : LsM K M H a vs → DatL K b M H vs ds → Dat K b M H (.ref a) (.lst ds)
  | tup {a : Addr} {vs : List V} {ds : List DV} : TsM K M H a vs → DatL K b M H vs ds → Dat K b M H (.ref a) (.tup ds)
  | ins {a dx : Addr} {c : Str} {ns : List Str} {vs : List V} {ds : List DV} : H a = some (.ins (He.ga K c) dx (ns.zip vs)) → a ∉ M → ns.length = vs.length → DatL K b M H vs ds → Dat K b M H (.ref a) (.ins c ns ds)
  | exc {a dx : Addr} {c : Str} {ns : List Str} {vs : List V} {ds : List DV} : H a = some (exo a (He.ga K c) (some dx)) → H dx = some (exd dx (ns.zip vs)) → a ∉ M → dx ∉ M → ns.length = vs.length → DatL K b M H vs ds → Dat K b M H (.ref a) (.exc c ns ds)
  | bag : Dat K b M H (.ref b) .bag
  | tupz {a : Addr} {o : Obj} {vs : List V} {ds : List DV} : H a = some (.frz o (.tup vs)) → o.dict = none → a ∉ M → DatL K b M H vs ds → Dat K b M H (.ref a) (.tupz ds)
  | ty (n : String) : Dat K b M H (.ty n) (.ty n)
  | cls (c : Str) : Dat K b M H (.ref (He.ga K c)) (.cls c)
inductive DatL (K : PySem.W.Frag) (b : Addr) (M : List Addr) (H : Hp) : List V → List DV → Prop
  | nil : DatL K b M H [] []
  | cons {v : V} {vs : List V} {d : DV} {ds : List DV} : Dat K b M H v d → DatL K b M H vs ds → DatL K b M H (v :: vs) (d :: ds)
end
section
variable {K : PySem.W.Frag} {b p : Addr} {M M' : List Addr} {H H' : Hp}
mutual
theorem Dat.ey (e : Ey M H H') : ∀ {v : V} {d : DV}, Dat K b M H v d → Dat K b M H' v d
  | _, _, .non => .non
  | _, _, .bl x => .bl x
  | _, _, .int i => .int i
  | _, _, .str x => .str x
  | _, _, .lst h l => .lst (h.ey e) (DatL.ey e l)
  | _, _, .tup h l => .tup (h.ey e) (DatL.ey e l)
  | _, _, .tupz h d n l => .tupz (e _ _ n h nofun) d n (DatL.ey e l)
  | _, _, .ins h n z l => .ins (e _ _ n h nofun) n z (DatL.ey e l)
  | _, _, .exc h h2 n n2 z l => .exc (e _ _ n h nofun) (e _ _ n2 h2 nofun) n n2 z (DatL.ey e l)
  | _, _, .bag => .bag
  | _, _, .ty n => .ty n
  | _, _, .cls c => .cls c
theorem DatL.ey (e : Ey M H H') : ∀ {vs : List V} {ds : List DV}, DatL K b M H vs ds → DatL K b M H' vs ds
  | _, _, .nil => .nil
  | _, _, .cons h l => .cons (Dat.ey e h) (DatL.ey e l)
end
mutual
theorem Dat.sub (s : ∀ x ∈ M', x ∈ M) : ∀ {v : V} {d : DV}, Dat K b M H v d → Dat K b M' H v d
  | _, _, .non => .non
  | _, _, .bl x => .bl x
  | _, _, .int i => .int i
  | _, _, .str x => .str x
  | _, _, .lst h l => .lst (h.sub s) (DatL.sub s l)
  | _, _, .tup h l => .tup (h.sub s) (DatL.sub s l)
  | _, _, .tupz h d n l => .tupz h d (fun q => n (s _ q)) (DatL.sub s l)
  | _, _, .ins h n z l => .ins h (fun q => n (s _ q)) z (DatL.sub s l)
  | _, _, .exc h h2 n n2 z l => .exc h h2 (fun q => n (s _ q)) (fun q => n2 (s _ q)) z (DatL.sub s l)
  | _, _, .bag => .bag
  | _, _, .ty n => .ty n
  | _, _, .cls c => .cls c
theorem DatL.sub (s : ∀ x ∈ M', x ∈ M) : ∀ {vs : List V} {ds : List DV}, DatL K b M H vs ds → DatL K b M' H vs ds
  | _, _, .nil => .nil
  | _, _, .cons h l => .cons (Dat.sub s h) (DatL.sub s l)
end
theorem ne_none {a : Addr} {o : HO} (h : H a = some o) (hp : H p = none) : a ≠ p := fun z => by
  rw [z, hp] at h
  cases h
mutual
theorem Dat.fresh (hp : H p = none) : ∀ {v : V} {d : DV}, Dat K b M H v d → Dat K b (p :: M) H v d
  | _, _, .non => .non
  | _, _, .bl x => .bl x
  | _, _, .int i => .int i
  | _, _, .str x => .str x
  | _, _, .lst h l => .lst (h.fresh hp) (DatL.fresh hp l)
  | _, _, .tup h l => .tup (h.fresh hp) (DatL.fresh hp l)
  | _, _, .tupz h d n l => .tupz h d (fun q => (List.mem_cons.mp q).elim (ne_none h hp) n) (DatL.fresh hp l)
  | _, _, .ins h n z l => .ins h (fun q => (List.mem_cons.mp q).elim (ne_none h hp) n) z (DatL.fresh hp l)
  | _, _, .exc h h2 n n2 z l => .exc h h2 (fun q => (List.mem_cons.mp q).elim (ne_none h hp) n) (fun q => (List.mem_cons.mp q).elim (ne_none h2 hp) n2) z (DatL.fresh hp l)
  | _, _, .bag => .bag
  | _, _, .ty n => .ty n
  | _, _, .cls c => .cls c
theorem DatL.fresh (hp : H p = none) : ∀ {vs : List V} {ds : List DV}, DatL K b M H vs ds → DatL K b (p :: M) H vs ds
  | _, _, .nil => .nil
  | _, _, .cons h l => .cons (Dat.fresh hp h) (DatL.fresh hp l)
end
mutual
/-- what of a datum is told without that knowledge -/
def fgt : DV → DV
  | .lst ds => .lst (fgtL ds)
  | .tup ds => .tup (fgtL ds)
  | .tupz ds => .tup (fgtL ds)
  | .ins c ns ds => .ins c ns (fgtL ds)
  | .exc c ns ds => .exc c ns (fgtL ds)
  | .non => .non
  | .bl x => .bl x
  | .int i => .int i
  | .str x => .str x
  | .bag => .bag
  | .ty n => .ty n
  | .cls c => .cls c
def fgtL : List DV → List DV
  | [] => []
  | d :: ds => fgt d :: fgtL ds
end
mutual
theorem Dat.fgt : ∀ {v : V} {d : DV}, Dat K b M H v d → Dat K b M H v (fgt d)
  | _, _, .non => .non
  | _, _, .bl x => .bl x
  | _, _, .int i => .int i
  | _, _, .str x => .str x
  | _, _, .lst h l => .lst h (DatL.fgt l)
  | _, _, .tup h l => .tup h (DatL.fgt l)
  | _, _, .tupz h d n l => .tup ⟨.inl (.inr ⟨_, h⟩), fun z => absurd z n⟩ (DatL.fgt l)
  | _, _, .ins h n z l => .ins h n (by rw [z]) (DatL.fgt l)
  | _, _, .exc h h2 n n2 z l => .exc h h2 n n2 (by rw [z]) (DatL.fgt l)
  | _, _, .bag => .bag
  | _, _, .ty n => .ty n
  | _, _, .cls c => .cls c
theorem DatL.fgt : ∀ {vs : List V} {ds : List DV}, DatL K b M H vs ds → DatL K b M H vs (fgtL ds)
  | _, _, .nil => .nil
  | _, _, .cons h l => .cons (Dat.fgt h) (DatL.fgt l)
end
theorem DatL.length : ∀ {vs : List V} {ds : List DV}, DatL K b M H vs ds → vs.length = ds.length
  | _, _, .nil => rfl
  | _, _, .cons _ l => congrArg Nat.succ (DatL.length l)
theorem DatL.get : ∀ {vs : List V} {ds : List DV} {i : Nat} {v : V}, DatL K b M H vs ds → vs[i]? = some v → ∃ d, ds[i]? = some d ∧ Dat K b M H v d
  | _, _, i, _, .nil, e => by simp at e
  | _, _, 0, _, .cons h _, e => by
    simp at e
    subst e
    exact ⟨_, rfl, h⟩
  | _, _, i + 1, _, .cons _ l, e => by
    obtain ⟨d, h1, h2⟩ := DatL.get (i := i) l (by simpa using e)
    exact ⟨d, by simpa using h1, h2⟩
theorem DatL.at : ∀ {vs : List V} {ds : List DV} {i : Nat} {d : DV}, DatL K b M H vs ds → ds[i]? = some d → ∃ v, vs[i]? = some v ∧ Dat K b M H v d
  | _, _, i, _, .nil, e => by simp at e
  | _, _, 0, _, .cons h _, e => by
    simp at e
    subst e
    exact ⟨_, rfl, h⟩
  | _, _, i + 1, _, .cons _ l, e => by
    obtain ⟨d, h1, h2⟩ := DatL.at (i := i) l (by simpa using e)
    exact ⟨d, by simpa using h1, h2⟩
theorem DatL.app : ∀ {vs vs' : List V} {ds ds' : List DV}, DatL K b M H vs ds → DatL K b M H vs' ds' → DatL K b M H (vs ++ vs') (ds ++ ds')
  | _, _, _, _, .nil, h => h
  | _, _, _, _, .cons a l, h => .cons a (DatL.app l h)
theorem DatL.drop : ∀ {vs : List V} {ds : List DV} (n : Nat), DatL K b M H vs ds → DatL K b M H (vs.drop n) (ds.drop n)
  | _, _, 0, h => h
  | _, _, _ + 1, .nil => .nil
  | _, _, n + 1, .cons _ l => DatL.drop n l
theorem DatL.take : ∀ {vs : List V} {ds : List DV} (n : Nat), DatL K b M H vs ds → DatL K b M H (vs.take n) (ds.take n)
  | _, _, 0, _ => .nil
  | _, _, _ + 1, .nil => .nil
  | _, _, n + 1, .cons a l => .cons a (DatL.take n l)
theorem DatL.set : ∀ {vs : List V} {ds : List DV} {v : V} {d : DV} (i : Nat), DatL K b M H vs ds → Dat K b M H v d → DatL K b M H (vs.set i v) (ds.set i d)
  | _, _, _, _, _, .nil, _ => .nil
  | _, _, _, _, 0, .cons _ l, h => .cons h l
  | _, _, _, _, i + 1, .cons a l, h => .cons a (DatL.set i l h)
theorem DatL.rev : ∀ {vs : List V} {ds : List DV}, DatL K b M H vs ds → DatL K b M H vs.reverse ds.reverse
  | _, _, .nil => .nil
  | _, _, .cons a l => by
    rw [List.reverse_cons, List.reverse_cons]
    exact DatL.app (DatL.rev l) (.cons a .nil)
theorem DatL.ints : ∀ (ns : List Int), DatL K b M H (ns.map V.int) (ns.map DV.int)
  | [] => .nil
  | n :: ns => .cons (.int n) (DatL.ints ns)
end
/-! ### what runs -/
/-- what a slot holds: data, a list of the def's own that nothing else reaches, an instance of its own -/
inductive SV where
  | d (x : DV) | own (xs : List DV) | self (z : Addr) (c : Str) (ns : List Str) (ds : List DV) | fix (vs : List V) (xs : List DV)
abbrev ST := List (Option SV)
abbrev XV := Str → List Str → List DV → Int → Prop
/-- the law's own: the written part, the bag's place, what the bag leans on, its state by the count of draws, the lambdas' tables -/
structure Cf where
  b : Addr
  bx : List Addr
  B : Hp → Int → Prop
  Bk : ∀ {H H' : Hp} {n : Int}, (∀ x o, x ∈ bx → H x = some o → H' x = some o) → B H n → B H' n
  bb : b ∈ bx
  Ba : ∀ {H : Hp} {n : Int}, B H n → ∀ x ∈ bx, ∃ o, H x = some o ∧ ∀ ps, o ≠ .tbl ps
  T : List (Addr × Str)
/-- a def that runs: Md what its caller lets it change, M0 what stays apart, H0 the heap at its entry, what is wanted of an exception -/
structure Wc extends Cf where
  Md : List Addr
  M0 : List Addr
  H0 : Hp
  bm : b ∈ M0
  bd : b ∈ Md
  E' : XV
  E : XK
/-- known of the whole run -/
inductive Gh where
  | d (v : V) (x : DV) | dl (vs : List V) (ds : List DV) | l (a : Addr) (vs : List V) (ds : List DV) | t (a : Addr) (vs : List V) (ds : List DV) | o (j : Nat) (a : Addr) (vs : List V) (ds : List DV)
abbrev Om := List (Nat × Addr)
def ad (O : Om) : List Addr := O.map (·.2)
def GhOk (K : PySem.W.Frag) (b : Addr) (O : Om) (M : List Addr) (H : Hp) : Gh → Prop
  | .d v x => Dat K b M H v x
  | .dl vs ds => DatL K b M H vs ds
  | .l a vs ds => LsM K M H a vs ∧ DatL K b M H vs ds
  | .t a vs ds => TsM K M H a vs ∧ DatL K b M H vs ds
  | .o j a vs ds => 1000000 ≤ j ∧ (j, a) ∈ O ∧ H a = some (.lst vs) ∧ DatL K b M H vs ds
def SlOk (K : PySem.W.Frag) (b : Addr) (O : Om) (M : List Addr) (H : Hp) (i : Nat) (v : V) : SV → Prop
  | .d x => Dat K b M H v x
  | .own xs => ∃ a vs, v = .ref a ∧ (i, a) ∈ O ∧ H a = some (.lst vs) ∧ DatL K b M H vs xs
  | .self z c ns ds => ∃ dx vs, v = .ref z ∧ (i, z) ∈ O ∧ H z = some (.ins (He.ga K c) dx (ns.zip vs)) ∧ ns.length = vs.length ∧ DatL K b M H vs ds
  | .fix vs xs => ∃ a, v = .ref a ∧ LsM K M H a vs ∧ DatL K b M H vs xs
/-- an address that a slot may own -/
def OwnC (W : Wc) (a : Addr) : Prop := (∀ o, W.H0 a = some o → a ∈ W.Md ∨ ∃ ps, o = .tbl ps) ∧ a ∉ W.M0 ∧ a ∉ W.bx
structure Rel (K : PySem.W.Frag) (W : Wc) (Γ : List Gh) (O : Om) (L : List Addr) (τ : ST) (n : Int) (σ : L2.St) (H : Hp) : Prop where
  len : τ.length = σ.length
  few : τ.length < 1000000
  slot : ∀ (i : Nat) (s : SV), τ[i]? = some (some s) → ∃ v, σ[i]? = some (some v) ∧ SlOk K W.b O (L ++ ad O ++ W.M0) H i v s
  gh : ∀ g ∈ Γ, GhOk K W.b O (L ++ ad O ++ W.M0) H g
  nd : (ad O).Nodup
  own : ∀ p ∈ O, OwnC W p.2
  ext : Ey W.Md W.H0 H
  bag : W.B H n
  bag0 : ∃ n0, W.B W.H0 n0
  tab : LamX.Tabs W.T H
  al : AlN (ad O ++ W.M0) H
  al0 : AlN W.M0 W.H0
  mdb : ∀ x ∈ W.Md, x = W.b ∨ x ∉ W.M0
section
variable {K : PySem.W.Frag} {W : Wc} {Γ Γ' : List Gh} {O : Om} {L : List Addr} {τ : ST} {n : Int} {σ : L2.St} {H H' : Hp}
theorem GhOk.ey {b : Addr} {M Ch : List Addr} {g : Gh} (h : GhOk K b O M H g) (e : Ey Ch H H') (s : ∀ x ∈ Ch, x ∈ M) (so : ∀ j a vs ds, g = .o j a vs ds → a ∉ Ch) : GhOk K b O M H' g := by
  have e' : Ey M H H' := e.sub s
  cases g with
  | d v x => exact Dat.ey e' h
  | dl vs ds => exact DatL.ey e' h
  | l a vs ds => exact ⟨h.1.ey e', DatL.ey e' h.2⟩
  | t a vs ds => exact ⟨h.1.ey e', DatL.ey e' h.2⟩
  | o j a vs ds => exact ⟨h.1, h.2.1, e _ _ (so j a vs ds rfl) h.2.2.1 nofun, DatL.ey e' h.2.2.2⟩
theorem SlOk.ey {b : Addr} {M Ch : List Addr} {i : Nat} {v : V} {s : SV} (h : SlOk K b O M H i v s) (e : Ey Ch H H') (sm : ∀ x ∈ Ch, x ∈ M) (so : ∀ a, (i, a) ∈ O → a ∉ Ch) : SlOk K b O M H' i v s := by
  have e' : Ey M H H' := e.sub sm
  cases s with
  | d x => exact Dat.ey e' h
  | own xs =>
    obtain ⟨a, vs, e1, e2, e3, e4⟩ := h
    exact ⟨a, vs, e1, e2, e _ _ (so a e2) e3 nofun, DatL.ey e' e4⟩
  | self z c ns ds =>
    obtain ⟨dx, vs, e1, e2, e3, e4, e5⟩ := h
    exact ⟨dx, vs, e1, e2, e _ _ (so z e2) e3 nofun, e4, DatL.ey e' e5⟩
  | fix vs xs =>
    obtain ⟨a, e1, e2, e3⟩ := h
    exact ⟨a, e1, e2.ey e', DatL.ey e' e3⟩
/-- the heap goes on: what changes is Ch, not the slots' own -/
theorem Rel.step (r : Rel K W Γ O L τ n σ H) {n' : Int} (e : Ey [W.b] H H') (hb : W.B H' n') (ht : LamX.Tabs W.T H') (ha : AlN (ad O ++ W.M0) H') : Rel K W Γ O L τ n' σ H' := by
  have sb : ∀ x ∈ [W.b], x ∈ L ++ ad O ++ W.M0 := fun x hx => by
    rw [List.mem_singleton.mp hx]
    exact List.mem_append_right _ W.bm
  have nob : ∀ {j a}, (j, a) ∈ O → a ∉ [W.b] := fun {j a} hj z => by
    rw [List.mem_singleton] at z
    exact (r.own _ hj).2.1 (z ▸ W.bm)
  have e' := e.sub sb
  refine ⟨r.len, r.few, fun i s hs => ?_, fun g hg => (r.gh g hg).ey e sb fun j a vs ds eg => ?_, r.nd, r.own, r.ext.tr (e.sub fun x hx => by rw [List.mem_singleton.mp hx]; exact W.bd), hb, r.bag0, ht, ha, r.al0, r.mdb⟩
  · obtain ⟨v, hv, k⟩ := r.slot i s hs
    exact ⟨v, hv, k.ey e sb fun a ha => nob ha⟩
  · subst eg
    exact nob (r.gh _ hg).2.1
theorem Rel.ex (r : Rel K W Γ O L τ n σ H) (e : BF.Ex [] H H') : Rel K W Γ O L τ n σ H' :=
  r.step (Ey.ex0 e) (W.Bk (fun x o _ h => e x o (by simp) h) r.bag) (BF.tabs_ex0 e r.tab) fun x hx => by
    obtain ⟨o, h, t⟩ := r.al x hx
    exact ⟨o, e _ _ (by simp) h, t⟩
/-- a ghost more -/
theorem Rel.gcons (r : Rel K W Γ O L τ n σ H) {g : Gh} (h : GhOk K W.b O (L ++ ad O ++ W.M0) H g) : Rel K W (g :: Γ) O L τ n σ H :=
  ⟨r.len, r.few, r.slot, fun x hx => (List.mem_cons.mp hx).elim (fun e => e ▸ h) (r.gh x), r.nd, r.own, r.ext, r.bag, r.bag0, r.tab, r.al, r.al0, r.mdb⟩
theorem Rel.gapp (r : Rel K W Γ O L τ n σ H) (h : ∀ g ∈ Γ', GhOk K W.b O (L ++ ad O ++ W.M0) H g) : Rel K W (Γ' ++ Γ) O L τ n σ H :=
  ⟨r.len, r.few, r.slot, fun x hx => (List.mem_append.mp hx).elim (h x) (r.gh x), r.nd, r.own, r.ext, r.bag, r.bag0, r.tab, r.al, r.al0, r.mdb⟩
theorem Rel.gsub (r : Rel K W Γ O L τ n σ H) (h : ∀ g ∈ Γ', g ∈ Γ) : Rel K W Γ' O L τ n σ H :=
  ⟨r.len, r.few, r.slot, fun x hx => r.gh x (h x hx), r.nd, r.own, r.ext, r.bag, r.bag0, r.tab, r.al, r.al0, r.mdb⟩
theorem Rel.tail {g : Gh} (r : Rel K W (g :: Γ) O L τ n σ H) : Rel K W Γ O L τ n σ H := r.gsub fun _ h => List.mem_cons_of_mem _ h
theorem Rel.rest (r : Rel K W (Γ' ++ Γ) O L τ n σ H) : Rel K W Γ O L τ n σ H := r.gsub fun _ h => List.mem_append_right _ h
theorem Rel.head {v : V} {d : DV} (r : Rel K W (.d v d :: Γ) O L τ n σ H) : Dat K W.b (L ++ ad O ++ W.M0) H v d := r.gh (.d v d) List.mem_cons_self
/-- a new address is in nothing -/
theorem Rel.newO (r : Rel K W Γ O L τ n σ H) {p : Addr} (hp : H p = none) : p ∉ ad O ++ W.M0 := r.al.out hp
theorem GhOk.fresh {b p : Addr} {M : List Addr} {g : Gh} (h : GhOk K b O M H g) (hp : H p = none) : GhOk K b O (p :: M) H g := by
  cases g with
  | d v x => exact Dat.fresh hp h
  | dl vs ds => exact DatL.fresh hp h
  | l a vs ds => exact ⟨h.1.fresh hp, DatL.fresh hp h.2⟩
  | t a vs ds => exact ⟨h.1.fresh hp, DatL.fresh hp h.2⟩
  | o j a vs ds => exact ⟨h.1, h.2.1, h.2.2.1, DatL.fresh hp h.2.2.2⟩
theorem SlOk.fresh {b p : Addr} {M : List Addr} {i : Nat} {v : V} {s : SV} (h : SlOk K b O M H i v s) (hp : H p = none) : SlOk K b O (p :: M) H i v s := by
  cases s with
  | d x => exact Dat.fresh hp h
  | own xs =>
    obtain ⟨a, vs, e1, e2, e3, e4⟩ := h
    exact ⟨a, vs, e1, e2, e3, DatL.fresh hp e4⟩
  | self z c ns ds =>
    obtain ⟨dx, vs, e1, e2, e3, e4, e5⟩ := h
    exact ⟨dx, vs, e1, e2, e3, e4, DatL.fresh hp e5⟩
  | fix vs xs =>
    obtain ⟨a, e1, e2, e3⟩ := h
    exact ⟨a, e1, e2.fresh hp, DatL.fresh hp e3⟩
theorem SlOk.sub {b : Addr} {M M' : List Addr} {O' : Om} {i : Nat} {v : V} {s : SV} (h : SlOk K b O M H i v s) (sm : ∀ x ∈ M', x ∈ M) (so : ∀ a, (i, a) ∈ O → (i, a) ∈ O') : SlOk K b O' M' H i v s := by
  cases s with
  | d x => exact Dat.sub sm h
  | own xs =>
    obtain ⟨a, vs, e1, e2, e3, e4⟩ := h
    exact ⟨a, vs, e1, so a e2, e3, DatL.sub sm e4⟩
  | self z c ns ds =>
    obtain ⟨dx, vs, e1, e2, e3, e4, e5⟩ := h
    exact ⟨dx, vs, e1, so z e2, e3, e4, DatL.sub sm e5⟩
  | fix vs xs =>
    obtain ⟨a, e1, e2, e3⟩ := h
    exact ⟨a, e1, e2.sub sm, DatL.sub sm e3⟩
theorem GhOk.sub {b : Addr} {M M' : List Addr} {O' : Om} {g : Gh} (h : GhOk K b O M H g) (s : ∀ x ∈ M', x ∈ M) (so : ∀ j a, 1000000 ≤ j → (j, a) ∈ O → (j, a) ∈ O') : GhOk K b O' M' H g := by
  cases g with
  | d v x => exact Dat.sub s h
  | dl vs ds => exact DatL.sub s h
  | l a vs ds => exact ⟨h.1.sub s, DatL.sub s h.2⟩
  | t a vs ds => exact ⟨h.1.sub s, DatL.sub s h.2⟩
  | o j a vs ds => exact ⟨h.1, so _ _ h.1 h.2.1, h.2.2.1, DatL.sub s h.2.2.2⟩
end
end VF
/-! ## Readings of expressions by data alone -/
namespace VF
open PySem PySem.Spec PyProof.Rows L2
abbrev WE := ST → Int → (DV → ST → Int → Prop) → Prop
abbrev WT := ST → Int → (Bool → ST → Int → Prop) → Prop
abbrev WA := ST → Int → (List DV → ST → Int → Prop) → Prop
def liftE (K : PySem.W.Frag) (W : Wc) (w : WE) : TE := fun σ H Q => ∃ Γ O τ n Q', Rel K W Γ O [] τ n σ H ∧ w τ n Q' ∧ ∀ v H' d O' τ' n', Rel K W Γ O' [] τ' n' σ H' → Dat K W.b (ad O' ++ W.M0) H' v d → Q' d τ' n' → Q v H'
def liftT (K : PySem.W.Frag) (W : Wc) (w : WT) : L2.TT := fun σ H Q => ∃ Γ O τ n Q', Rel K W Γ O [] τ n σ H ∧ w τ n Q' ∧ ∀ b H' O' τ' n', Rel K W Γ O' [] τ' n' σ H' → Q' b τ' n' → Q b H'
def liftA (K : PySem.W.Frag) (W : Wc) (w : WA) : TA := fun σ H Q => ∃ Γ O τ n Q', Rel K W Γ O [] τ n σ H ∧ w τ n Q' ∧ ∀ vs H' ds O' τ' n', Rel K W Γ O' [] τ' n' σ H' → DatL K W.b (ad O' ++ W.M0) H' vs ds → Q' ds τ' n' → Q vs H'
/-- a list that is new, and no one else's -/
def liftO (K : PySem.W.Frag) (W : Wc) (w : WA) : TE := fun σ H Q => ∃ Γ O τ n Q', Rel K W Γ O [] τ n σ H ∧ w τ n Q' ∧ ∀ a vs H' ds O' τ' n', Rel K W Γ O' [a] τ' n' σ H' → H' a = some (.lst vs) → a ∉ ad O' ++ W.M0 → OwnC W a → DatL K W.b (a :: (ad O' ++ W.M0)) H' vs ds → Q' ds τ' n' → Q (.ref a) H'
def DOp (K : PySem.W.Frag) (r : R2) (w : DV → DV → (DV → Prop) → Prop) : Prop := ∀ b M H x y d e Q' (Q : VK), AlN M H → Dat K b M H x d → Dat K b M H y e → w d e Q' → (∀ z H' f, BF.Ex [] H H' → Dat K b M H' z f → Q' f → Q z H') → r x y H Q
def DUn (K : PySem.W.Frag) (r : V → Hp → VK → Prop) (w : DV → (DV → Prop) → Prop) : Prop := ∀ b M H x d Q' (Q : VK), AlN M H → Dat K b M H x d → w d Q' → (∀ z H' f, BF.Ex [] H H' → Dat K b M H' z f → Q' f → Q z H') → r x H Q
def DCall (K : PySem.W.Frag) (r : List V → Hp → VK → Prop) (w : List DV → (DV → Prop) → Prop) : Prop := ∀ b M H xs ds Q' (Q : VK), AlN M H → DatL K b M H xs ds → w ds Q' → (∀ z H' f, BF.Ex [] H H' → Dat K b M H' z f → Q' f → Q z H') → r xs H Q
def DSl (K : PySem.W.Frag) (r : V → Option Int → Option Int → Hp → VK → Prop) (w : DV → Option Int → Option Int → (DV → Prop) → Prop) : Prop := ∀ b M H x d l u Q' (Q : VK), AlN M H → Dat K b M H x d → w d l u Q' → (∀ z H' f, BF.Ex [] H H' → Dat K b M H' z f → Q' f → Q z H') → r x l u H Q
/-! the readings -/
def wVar (i : Nat) : WE := fun τ n Q => ∃ s, τ[i]? = some (some s) ∧ match s with
  | .d x => Q x τ n
  | .own xs => Q (.lst xs) (τ.set i (some (.d (.lst xs)))) n
  | .self _ c ns ds => Q (.ins c ns ds) (τ.set i (some (.d (.ins c ns ds)))) n
  | .fix _ xs => Q (.lst xs) τ n
def wC (d : DV) : WE := fun τ n Q => Q d τ n
def wOp (w : DV → DV → (DV → Prop) → Prop) (wa wb : WE) : WE := fun τ n Q => wa τ n fun d τ1 n1 => wb τ1 n1 fun e τ2 n2 => w d e fun f => Q f τ2 n2
def wUn (w : DV → (DV → Prop) → Prop) (wa : WE) : WE := fun τ n Q => wa τ n fun d τ1 n1 => w d fun f => Q f τ1 n1
def wNil : WA := fun τ n Q => Q [] τ n
def wCons (we : WE) (wr : WA) : WA := fun τ n Q => we τ n fun d τ1 n1 => wr τ1 n1 fun ds τ2 n2 => Q (d :: ds) τ2 n2
def wCB (w : List DV → (DV → Prop) → Prop) (wa : WA) : WE := fun τ n Q => wa τ n fun ds τ1 n1 => w ds fun f => Q f τ1 n1
def wTup (wa : WA) : WE := fun τ n Q => wa τ n fun ds τ1 n1 => ds.length ≤ 1000000 ∧ Q (.tup ds) τ1 n1
def wLst (wa : WA) : WE := fun τ n Q => wa τ n fun ds τ1 n1 => ds.length ≤ 1000000 ∧ Q (.lst ds) τ1 n1
def wLstO (wa : WA) : WA := fun τ n Q => wa τ n fun ds τ1 n1 => ds.length ≤ 1000000 ∧ Q ds τ1 n1
def wB (we : WE) : WT := fun τ n Q => we τ n fun d τ1 n1 => ∃ b, d = .bl b ∧ Q b τ1 n1
def wAnd (t u : WT) : WT := fun τ n Q => t τ n fun c τ1 n1 => if c = true then u τ1 n1 Q else Q false τ1 n1
def wOr (t u : WT) : WT := fun τ n Q => t τ n fun c τ1 n1 => if c = true then Q true τ1 n1 else u τ1 n1 Q
def wNot (t : WT) : WT := fun τ n Q => t τ n fun c τ1 n1 => Q (!c) τ1 n1
def wAndV (ta tb : WE) : WE := fun τ n Q => ta τ n fun d τ1 n1 => ∃ c, d = .bl c ∧ if c = true then tb τ1 n1 Q else Q (.bl false) τ1 n1
def wOrV (ta tb : WE) : WE := fun τ n Q => ta τ n fun d τ1 n1 => ∃ c, d = .bl c ∧ if c = true then Q (.bl true) τ1 n1 else tb τ1 n1 Q
def wNotV (ta : WE) : WE := fun τ n Q => ta τ n fun d τ1 n1 => ∃ c, d = .bl c ∧ Q (.bl (!c)) τ1 n1
def wIf (t : WT) (wa wb : WE) : WE := fun τ n Q => t τ n fun c τ1 n1 => if c = true then wa τ1 n1 Q else wb τ1 n1 Q
def wP (o : Option WE) : ST → Int → (Option Int → ST → Int → Prop) → Prop := fun τ n R => match o with
  | none => R none τ n
  | some we => we τ n fun x τ1 n1 => ∃ i, x = .int i ∧ R (some i) τ1 n1
def wSl (w : DV → Option Int → Option Int → (DV → Prop) → Prop) (wa : WE) (wl wh : Option WE) : WE := fun τ n Q => wa τ n fun d τ1 n1 => wP wl τ1 n1 fun l τ2 n2 => wP wh τ2 n2 fun u τ3 n3 => w d l u fun f => Q f τ3 n3
def wChain (w w' : DV → DV → (DV → Prop) → Prop) (wa wb wc : WE) : WE := fun τ n Q => wa τ n fun d τ1 n1 => wb τ1 n1 fun e τ2 n2 => w d e fun f => ∃ k, f = .bl k ∧ (if k = true then wc τ2 n2 fun g τ3 n3 => w' e g fun z => Q z τ3 n3 else Q (.bl false) τ2 n2)
section
variable {K : PySem.W.Frag} {W : Wc} {X : Cx} {a b c e : Expr} {es : List Expr} {wa wb wc we : WE} {wr : WA} {pos : Pos} {r r' : R2} {w w' : DV → DV → (DV → Prop) → Prop}
theorem Rel.al' {Γ : List Gh} {O : Om} {L : List Addr} {τ : ST} {n : Int} {σ : L2.St} {H : Hp} (q : Rel K W Γ O L τ n σ H) : AlN (ad O ++ W.M0) H := q.al
theorem lift_c {v : V} {d : DV} (h : PE X e (tC v)) (hd : ∀ b M H, Dat K b M H v d) : PE X e (liftE K W (wC d)) := BF.PE.imp h fun σ H Q ⟨Γ, O, τ, n, Q', q, hw, k⟩ => k v H d O τ n q (hd _ _ _) hw
theorem ve_int {i : Int} (h : PE X e (tC (.int i))) : PE X e (liftE K W (wC (.int i))) := lift_c h fun _ _ _ => .int i
theorem ve_bl {i : Bool} (h : PE X e (tC (.bl i))) : PE X e (liftE K W (wC (.bl i))) := lift_c h fun _ _ _ => .bl i
theorem ve_str {i : Str} (h : PE X e (tC (.str i))) : PE X e (liftE K W (wC (.str i))) := lift_c h fun _ _ _ => .str i
theorem ve_non (h : PE X e (tC .non)) : PE X e (liftE K W (wC .non)) := lift_c h fun _ _ _ => .non
theorem ve_ty {s : String} (h : PE X e (tC (.ty s))) : PE X e (liftE K W (wC (.ty s))) := lift_c h fun _ _ _ => .ty s
theorem ve_cls {s : Str} (h : PE X e (tC (.ref (He.ga K s)))) : PE X e (liftE K W (wC (.cls s))) := lift_c h fun _ _ _ => .cls s
/-- a slot's own list is handed on: it is no one's own any more -/
theorem Rel.give {Γ : List Gh} {O : Om} {τ : ST} {n : Int} {σ : L2.St} {H : Hp} (q : Rel K W Γ O [] τ n σ H) {i : Nat} {x : DV} {s : SV} (hs : τ[i]? = some (some s)) (hx : ∀ v (O' : Om), (∀ p ∈ O', p ∈ O) → (∀ p ∈ O', p.1 ≠ i) → (∀ j a, (j, a) ∈ O → j ≠ i → (j, a) ∈ O') → (ad O').Nodup → SlOk K W.b O (ad O ++ W.M0) H i v s → Dat K W.b (ad O' ++ W.M0) H v x) :
    ∃ v O', σ[i]? = some (some v) ∧ Rel K W Γ O' [] (τ.set i (some (.d x))) n σ H ∧ Dat K W.b (ad O' ++ W.M0) H v x := by
  obtain ⟨v, hv, k⟩ := q.slot i s hs
  have hi : i < τ.length := (List.getElem?_eq_some_iff.mp hs).1
  have hm : ∀ p ∈ O.filter (fun p => decide (p.1 ≠ i)), p ∈ O := fun p hp => (List.mem_filter.mp hp).1
  have hn : ∀ p ∈ O.filter (fun p => decide (p.1 ≠ i)), p.1 ≠ i := fun p hp => of_decide_eq_true (List.mem_filter.mp hp).2
  have hk : ∀ j a, (j, a) ∈ O → j ≠ i → (j, a) ∈ O.filter (fun p => decide (p.1 ≠ i)) := fun j a h1 h2 => List.mem_filter.mpr ⟨h1, decide_eq_true h2⟩
  have hnd : (ad (O.filter (fun p => decide (p.1 ≠ i)))).Nodup := q.nd.sublist (List.Sublist.map _ List.filter_sublist)
  have sM : ∀ y ∈ ad (O.filter (fun p => decide (p.1 ≠ i))) ++ W.M0, y ∈ ad O ++ W.M0 := fun y hy => by
    rcases List.mem_append.mp hy with hy | hy
    · obtain ⟨p, hp, e⟩ := List.mem_map.mp hy
      exact List.mem_append_left _ (List.mem_map.mpr ⟨p, hm p hp, e⟩)
    · exact List.mem_append_right _ hy
  have hd := hx v _ hm hn hk hnd k
  refine ⟨v, _, hv, ⟨by rw [List.length_set]; exact q.len, by rw [List.length_set]; exact q.few, fun j s' hj => ?_, fun g hg => (q.gh g hg).sub sM fun j a h1 h2 => hk j a h2 (by have := q.few; omega), hnd, fun p hp => q.own p (hm p hp), q.ext, q.bag, q.bag0, q.tab, fun y hy => q.al y (sM y hy), q.al0, q.mdb⟩, hd⟩
  by_cases e : j = i
  · subst e
    rw [List.getElem?_set_self hi] at hj
    cases hj
    exact ⟨v, hv, hd⟩
  · rw [List.getElem?_set_ne (Ne.symm e)] at hj
    obtain ⟨u, hu, k'⟩ := q.slot j s' hj
    exact ⟨u, hu, k'.sub sM fun a ha => hk j a ha e⟩
theorem nd_out {O O' : Om} {i : Nat} {a : Addr} (nd : (ad O).Nodup) (h : (i, a) ∈ O) (hm : ∀ p ∈ O', p ∈ O) (hn : ∀ p ∈ O', p.1 ≠ i) : a ∉ ad O' := fun z => by
  obtain ⟨p, hp, e⟩ := List.mem_map.mp z
  have h1 := hm p hp
  have inj : ∀ (O : Om), (ad O).Nodup → ∀ p q : Nat × Addr, p ∈ O → q ∈ O → p.2 = q.2 → p = q := by
    intro O
    induction O with
    | nil => intro _ _ _ h; cases h
    | cons x O ih =>
      intro nd p q hp hq e
      obtain ⟨n1, n2⟩ := List.nodup_cons.mp nd
      rcases List.mem_cons.mp hp with e1 | h1
      · rcases List.mem_cons.mp hq with e2 | h2
        · rw [e1, e2]
        · exact absurd (List.mem_map.mpr ⟨q, h2, by rw [← e, e1]⟩) n1
      · rcases List.mem_cons.mp hq with e2 | h2
        · exact absurd (List.mem_map.mpr ⟨p, h1, by rw [e, e2]⟩) n1
        · exact ih n2 p q h1 h2 e
  have := inj O nd p (i, a) h1 h e
  exact hn p hp (by rw [this])
theorem ve_var {i : Nat} (h : PE X e (tVar i)) : PE X e (liftE K W (wVar i)) := BF.PE.imp h fun σ H Q ⟨Γ, O, τ, n, Q', q, ⟨s, hs, hw⟩, k⟩ => by
  cases s with
  | d x =>
    obtain ⟨v, hv, hd⟩ := q.slot i _ hs
    exact ⟨v, hv, k v H x O τ n q hd hw⟩
  | own xs =>
    obtain ⟨v, O', hv, q', hd⟩ := q.give (x := .lst xs) hs fun v O' hm hn hk nd ⟨a, vs, e1, e2, e3, e4⟩ => by
      subst e1
      have s : ∀ y ∈ ad O' ++ W.M0, y ∈ ad O ++ W.M0 := fun y hy => by
        rcases List.mem_append.mp hy with hy | hy
        · obtain ⟨p, hp, e⟩ := List.mem_map.mp hy
          exact List.mem_append_left _ (List.mem_map.mpr ⟨p, hm p hp, e⟩)
        · exact List.mem_append_right _ hy
      refine .lst (LsM.of e3 fun z => ?_) (DatL.sub s e4)
      rcases List.mem_append.mp z with z | z
      · exact nd_out q.nd e2 hm hn z
      · exact (q.own _ e2).2.1 z
    exact ⟨v, hv, k v H _ O' _ n q' hd hw⟩
  | self z c ns ds =>
    obtain ⟨v, O', hv, q', hd⟩ := q.give (x := .ins c ns ds) hs fun v O' hm hn hk nd ⟨dx, vs, e1, e2, e3, e4, e5⟩ => by
      subst e1
      have s : ∀ y ∈ ad O' ++ W.M0, y ∈ ad O ++ W.M0 := fun y hy => by
        rcases List.mem_append.mp hy with hy | hy
        · obtain ⟨p, hp, e⟩ := List.mem_map.mp hy
          exact List.mem_append_left _ (List.mem_map.mpr ⟨p, hm p hp, e⟩)
        · exact List.mem_append_right _ hy
      refine .ins e3 (fun z => ?_) e4 (DatL.sub s e5)
      rcases List.mem_append.mp z with z | z
      · exact nd_out q.nd e2 hm hn z
      · exact (q.own _ e2).2.1 z
    exact ⟨v, hv, k v H _ O' _ n q' hd hw⟩
  | fix vs xs =>
    obtain ⟨v, hv, a, e1, e2, e3⟩ := q.slot i _ hs
    subst e1
    exact ⟨_, hv, k _ H _ O τ n q (.lst e2 e3) hw⟩
theorem lift2 (hd : DOp K r w) {σ : L2.St} {H : Hp} {Q : VK} (h : liftE K W (wOp w wa wb) σ H Q) : tOp r (liftE K W wa) (liftE K W wb) σ H Q := by
  obtain ⟨Γ, O, τ, n, Q', q, hw, k⟩ := h
  refine ⟨Γ, O, τ, n, _, q, hw, fun v H1 d O1 τ1 n1 q1 d1 hw1 => ?_⟩
  refine ⟨.d v d :: Γ, O1, τ1, n1, _, q1.gcons d1, hw1, fun u H2 e O2 τ2 n2 q2 d2 hw2 => ?_⟩
  exact hd W.b _ H2 v u d e _ Q q2.al q2.head d2 hw2 fun z H' f e' df qf => k z H' f O2 τ2 n2 (q2.tail.ex e') df qf
theorem ve_op {op : Operator} (ho : OpR X (binaryOp op) r) (hd : DOp K r w) (ha : PE X a (liftE K W wa)) (hb : PE X b (liftE K W wb)) : PE X (.BinOp a op b pos) (liftE K W (wOp w wa wb)) := BF.PE.imp (pe_op ho ha hb) fun _ _ _ q => lift2 hd q
theorem ve_cmp {op : CmpOp} (ho : OpR X (compareOp op) r) (hd : DOp K r w) (ha : PE X a (liftE K W wa)) (hb : PE X b (liftE K W wb)) (hm : behindInMarks op b = false) : PE X (.Compare a [op] [b] pos) (liftE K W (wOp w wa wb)) := BF.PE.imp (pe_cmpR ho ha hb hm) fun _ _ _ q => lift2 hd q
theorem ve_ix (hr : IxR X r) (hd : DOp K r w) (ha : PE X a (liftE K W wa)) (hb : PE X b (liftE K W wb)) (hs : PlainIx b) : PE X (.Subscript a b pos) (liftE K W (wOp w wa wb)) := BF.PE.imp (pe_ix hr ha hb hs) fun _ _ _ q => lift2 hd q
theorem lift1 {r : V → Hp → VK → Prop} {w : DV → (DV → Prop) → Prop} (hd : DUn K r w) {σ : L2.St} {H : Hp} {Q : VK} (h : liftE K W (wUn w wa) σ H Q) : tUn r (liftE K W wa) σ H Q := by
  obtain ⟨Γ, O, τ, n, Q', q, hw, k⟩ := h
  refine ⟨Γ, O, τ, n, _, q, hw, fun v H1 d O1 τ1 n1 q1 d1 hw1 => ?_⟩
  exact hd W.b _ H1 v d _ Q q1.al d1 hw1 fun z H' f e' df qf => k z H' f O1 τ1 n1 (q1.ex e') df qf
theorem ve_un {op : UnaryOp} {r : V → Hp → VK → Prop} {w : DV → (DV → Prop) → Prop} (ho : UnR X (unaryOp op) r) (hd : DUn K r w) (ha : PE X a (liftE K W wa)) : PE X (.UnaryOp op a pos) (liftE K W (wUn w wa)) := BF.PE.imp (pe_un ho ha) fun _ _ _ q => lift1 hd q
theorem va_nil : PA X [] (liftA K W wNil) := ⟨fun p pins s σ H Q I ⟨Γ, O, τ, n, Q', q, hw, k⟩ => pa_nil.run p pins s σ H Q I (k [] H [] O τ n q .nil hw)⟩
theorem PA.imp {es : List Expr} {t t' : TA} (h : PA X es t) (i : ∀ σ H Q, t' σ H Q → t σ H Q) : PA X es t' := ⟨fun p pins s σ H Q I q => h.run p pins s σ H Q I (i σ H Q q)⟩
theorem va_cons (he : PE X e (liftE K W we)) (hr : PA X es (liftA K W wr)) (hs : starEach (e :: es) X.env = (false, eval e X.env) :: starEach es X.env := by rfl) : PA X (e :: es) (liftA K W (wCons we wr)) := by
  refine PA.imp (pa_cons he hr hs) fun σ H Q ⟨Γ, O, τ, n, Q', q, hw, k⟩ => ?_
  refine ⟨Γ, O, τ, n, _, q, hw, fun v H1 d O1 τ1 n1 q1 d1 hw1 => ?_⟩
  refine ⟨.d v d :: Γ, O1, τ1, n1, _, q1.gcons d1, hw1, fun vs H2 ds O2 τ2 n2 q2 d2 hw2 => ?_⟩
  exact k (v :: vs) H2 (d :: ds) O2 τ2 n2 q2.tail (.cons q2.head d2) hw2
theorem liftC {rc : List V → Hp → VK → Prop} {w : List DV → (DV → Prop) → Prop} (hd : DCall K rc w) {σ : L2.St} {H : Hp} {Q : VK} (h : liftE K W (wCB w wr) σ H Q) : tCB rc (liftA K W wr) σ H Q := by
  obtain ⟨Γ, O, τ, n, Q', q, hw, k⟩ := h
  refine ⟨Γ, O, τ, n, _, q, hw, fun vs H1 ds O1 τ1 n1 q1 d1 hw1 => ?_⟩
  exact hd W.b _ H1 vs ds _ Q q1.al d1 hw1 fun z H' f e' df qf => k z H' f O1 τ1 n1 (q1.ex e') df qf
theorem ve_cb {rc : List V → Hp → VK → Prop} {w : List DV → (DV → Prop) → Prop} (h : PE X e (tCB rc (liftA K W wr))) (hd : DCall K rc w) : PE X e (liftE K W (wCB w wr)) := BF.PE.imp h fun _ _ _ q => liftC hd q
theorem ve_tup {x1} (h : PA X es (liftA K W wr)) : PE X (.Tuple es x1 pos) (liftE K W (wTup wr)) := by
  refine BF.PE.imp (BF.pe_tupE h) fun σ H Q ⟨Γ, O, τ, n, Q', q, hw, k⟩ => ?_
  refine ⟨Γ, O, τ, n, _, q, hw, fun vs H1 ds O1 τ1 n1 q1 d1 hw1 => ⟨by rw [d1.length]; exact hw1.1, fun p H2 hp e hp2 => ?_⟩⟩
  exact k (.ref p) H2 (.tup ds) O1 τ1 n1 (q1.ex e) (.tup (TsM.of hp2 (q1.newO hp)) (DatL.ey (Ey.ex0 e) d1)) hw1.2
theorem ve_lst (h : PA X es (liftA K W wr)) : PE X (.List es pos) (liftE K W (wLst wr)) := by
  refine BF.PE.imp (BF.pe_lstE h) fun σ H Q ⟨Γ, O, τ, n, Q', q, hw, k⟩ => ?_
  refine ⟨Γ, O, τ, n, _, q, hw, fun vs H1 ds O1 τ1 n1 q1 d1 hw1 => ⟨by rw [d1.length]; exact hw1.1, fun p H2 hp e hp2 => ?_⟩⟩
  exact k (.ref p) H2 (.lst ds) O1 τ1 n1 (q1.ex e) (.lst (LsM.of hp2 (q1.newO hp)) (DatL.ey (Ey.ex0 e) d1)) hw1.2
/-- .. with p apart -/
theorem Rel.apart {Γ : List Gh} {O : Om} {τ : ST} {n : Int} {σ : L2.St} {H H' : Hp} {p : Addr} (q : Rel K W Γ O [] τ n σ H) (hp : H p = none) (e : BF.Ex [] H H') : Rel K W Γ O [p] τ n σ H' := by
  have q' : Rel K W Γ O [p] τ n σ H := ⟨q.len, q.few, fun i s hs => by
    obtain ⟨v, hv, k⟩ := q.slot i s hs
    exact ⟨v, hv, k.fresh hp⟩, fun g hg => (q.gh g hg).fresh hp, q.nd, q.own, q.ext, q.bag, q.bag0, q.tab, q.al, q.al0, q.mdb⟩
  exact q'.ex e
theorem Rel.ownC {Γ : List Gh} {O : Om} {L : List Addr} {τ : ST} {n : Int} {σ : L2.St} {H : Hp} {p : Addr} (q : Rel K W Γ O L τ n σ H) (hp : H p = none) : OwnC W p := by
  refine ⟨fun o ho => ?_, fun z => q.newO hp (List.mem_append_right _ z), fun z => ?_⟩
  · by_cases m : p ∈ W.Md
    · exact .inl m
    · by_cases t : ∃ ps, o = .tbl ps
      · exact .inr t
      · have := q.ext p o m ho fun ps e => t ⟨ps, e⟩
        rw [hp] at this
        cases this
  · obtain ⟨o, ho, _⟩ := W.Ba q.bag p z
    rw [hp] at ho
    cases ho
/-- a new list, no one else's -/
theorem vo_lst (h : PA X es (liftA K W wr)) : PE X (.List es pos) (liftO K W (wLstO wr)) := by
  refine BF.PE.imp (BF.pe_lstE h) fun σ H Q ⟨Γ, O, τ, n, Q', q, hw, k⟩ => ?_
  refine ⟨Γ, O, τ, n, _, q, hw, fun vs H1 ds O1 τ1 n1 q1 d1 hw1 => ⟨by rw [d1.length]; exact hw1.1, fun p H2 hp e hp2 => ?_⟩⟩
  exact k p vs H2 ds O1 τ1 n1 (q1.apart hp e) hp2 (q1.newO hp) (q1.ownC hp) (DatL.ey (Ey.ex0 e) (DatL.fresh hp d1)) hw1.2
end
end VF
/-! ## Tests, slices, calls, methods, fields -/
namespace VF
open PySem PySem.Spec PyProof.Rows L2
abbrev DSp := List DV → Int → (DV → Int → Prop) → XV → Prop
def lk : List Str → List DV → Str → Option DV
  | n :: ns, d :: ds, f => if f == n then some d else lk ns ds f
  | _, _, _ => none
def AtOk (K : PySem.W.Frag) (c f : Str) : Prop := Cls K (He.ga K c) ∧ NoAttr K (He.ga K c) f
def wCall (sp : DSp) (dds : List DV) (E' : XV) (wr : WA) : WE := fun τ n Q => wr τ n fun ds τ1 n1 => sp (ds ++ dds) n1 (fun d n2 => Q d τ1 n2) E'
def wMeth (c m : Str) (sp : DSp) (dds : List DV) (E' : XV) (wa : WE) (wr : WA) : WE := fun τ n Q => wa τ n fun d τ1 n1 => ∃ ns es, d = .ins c ns es ∧ ns.contains m = false ∧ wr τ1 n1 fun ds τ2 n2 => sp (d :: (ds ++ dds)) n2 (fun f n3 => Q f τ2 n3) E'
def wFld (K : PySem.W.Frag) (wa : WE) (f : Str) : WE := fun τ n Q => wa τ n fun d τ1 n1 => ∃ c ns es x, d = .ins c ns es ∧ AtOk K c f ∧ lk ns es f = some x ∧ Q x τ1 n1
/-- a field of what a slot holds, without handing it on -/
def wFldS (K : PySem.W.Frag) (i : Nat) (f : Str) : WE := fun τ n Q => ∃ z c ns es x, (τ[i]? = some (some (.self z c ns es)) ∨ τ[i]? = some (some (.d (.ins c ns es)))) ∧ AtOk K c f ∧ lk ns es f = some x ∧ Q x τ n
/-- what lies behind a call -/
structure Post (C : Cf) (M : List Addr) (H H' : Hp) (n' : Int) : Prop where
  ey : Ey [C.b] H H'
  al : AlN M H'
  bag : C.B H' n'
  tab : LamX.Tabs C.T H'
def ELinkG (K : PySem.W.Frag) (W : Wc) (E' : XV) (E : XK) : Prop := ∀ c ns ws es dd H' n', Ey W.Md W.H0 H' → AlN W.M0 H' → W.B H' n' → LamX.Tabs W.T H' → H' dd = some (.xd (ns.zip ws)) → ns.length = ws.length → DatL K W.b W.M0 H' ws es → E' c ns es n' → E (.ref (He.ga K c)) (some dd) H'
abbrev ELink (K : PySem.W.Frag) (W : Wc) : Prop := ELinkG K W W.E' W.E
def E0' : XV := fun _ _ _ _ => False
theorem elink0 {K : PySem.W.Frag} {W : Wc} {E : XK} : ELinkG K W E0' E := fun _ _ _ _ _ _ _ _ _ _ _ _ _ _ h => h.elim
def liftSp (K : PySem.W.Frag) (Cs : Cf → Prop) (sp : DSp) : Sp := fun vs H Q E => ∃ (C : Cf) (M : List Addr) (n : Int) (ds : List DV) (Q' : DV → Int → Prop) (E' : XV), Cs C ∧ C.b ∈ M ∧ AlN M H ∧ C.B H n ∧ LamX.Tabs C.T H ∧ DatL K C.b M H vs ds ∧ sp ds n Q' E' ∧
  (∀ v H' d n', Post C M H H' n' → Dat K C.b M H' v d → Q' d n' → Q v H') ∧
  (∀ c ns ws es dd H' n', Post C M H H' n' → H' dd = some (.xd (ns.zip ws)) → ns.length = ws.length → DatL K C.b M H' ws es → E' c ns es n' → E (.ref (He.ga K c)) (some dd) H')
section
variable {K : PySem.W.Frag} {W : Wc} {X : Cx} {a b c e : Expr} {es : List Expr} {wa wb wc we : WE} {wr : WA} {t u : WT} {pos : Pos} {r r' : R2} {w w' : DV → DV → (DV → Prop) → Prop} {Cs : Cf → Prop} {rest : List Expr}
theorem PT.imp {e : Expr} {t t' : L2.TT} (h : PT X e t) (i : ∀ σ H Q, t' σ H Q → t σ H Q) : PT X e t' := ⟨fun pins s σ H Q I q => h.run pins s σ H Q I (i σ H Q q)⟩
theorem PW.imp {e : Expr} {t t' : L2.TT} (h : PW X e t) (i : ∀ σ H Q, t' σ H Q → t σ H Q) : PW X e t' := ⟨fun wh pins s σ H Q I q => h.run wh pins s σ H Q I (i σ H Q q)⟩
theorem bl_of {K : PySem.W.Frag} {b : Addr} {M : List Addr} {H : Hp} {v : V} {x : Bool} (h : Dat K b M H v (.bl x)) : v = .bl x := by cases h; rfl
theorem liftB {σ : L2.St} {H : Hp} {Q : Bool → Hp → Prop} (h : liftT K W (wB we) σ H Q) : liftE K W we σ H fun x H' => ∃ k, x = .bl k ∧ Q k H' := by
  obtain ⟨Γ, O, τ, n, Q', q, hw, k⟩ := h
  refine ⟨Γ, O, τ, n, _, q, hw, fun v H1 d O1 τ1 n1 q1 d1 ⟨x, ex, qx⟩ => ?_⟩
  subst ex
  exact ⟨x, bl_of d1, k x H1 O1 τ1 n1 q1 qx⟩
theorem vt_cmp {op : CmpOp} (ho : OpR X (compareOp op) r) (hd : DOp K r w) (ha : PE X a (liftE K W wa)) (hb : PE X b (liftE K W wb)) (hm : behindInMarks op b = false) : PT X (.Compare a [op] [b] pos) (liftT K W (wB (wOp w wa wb))) :=
  PT.imp (pt_cmpR ho ha hb hm) fun σ H Q h => lift2 hd (liftB h)
theorem vt_val (h : PE X e (liftE K W we)) (he : ∀ whole, isTrue e X.env whole = (do let v ← whole; standAt e.pos; holding [v] (truthy v)) := by intro _; rfl) : PT X e (liftT K W (wB we)) :=
  PT.imp (pt_val h he) fun σ H Q h => liftB h
theorem vt_not (h : PT X a (liftT K W t)) : PT X (.UnaryOp .Not a pos) (liftT K W (wNot t)) := PT.imp (pt_not h) fun σ H Q ⟨Γ, O, τ, n, Q', q, hw, k⟩ => ⟨Γ, O, τ, n, _, q, hw, fun b H1 O1 τ1 n1 q1 hq => k (!b) H1 O1 τ1 n1 q1 hq⟩
theorem vw_and1 (h : PT X a (liftT K W t)) : PW X (.BoolOp .And [a] pos) (liftT K W t) := pw_and1 h
theorem vw_or1 (h : PT X a (liftT K W t)) : PW X (.BoolOp .Or [a] pos) (liftT K W t) := pw_or1 h
theorem vw_and (ha : PT X a (liftT K W t)) (hb : PW X (.BoolOp .And (b :: rest) pos) (liftT K W u)) : PW X (.BoolOp .And (a :: b :: rest) pos) (liftT K W (wAnd t u)) := PW.imp (pw_and ha hb) fun σ H Q ⟨Γ, O, τ, n, Q', q, hw, k⟩ =>
  ⟨Γ, O, τ, n, _, q, hw, fun c H1 O1 τ1 n1 q1 hq => by
    cases c with
    | true => exact ⟨Γ, O1, τ1, n1, Q', q1, hq, k⟩
    | false => exact k false H1 O1 τ1 n1 q1 hq⟩
theorem vw_or (ha : PT X a (liftT K W t)) (hb : PW X (.BoolOp .Or (b :: rest) pos) (liftT K W u)) : PW X (.BoolOp .Or (a :: b :: rest) pos) (liftT K W (wOr t u)) := PW.imp (pw_or ha hb) fun σ H Q ⟨Γ, O, τ, n, Q', q, hw, k⟩ =>
  ⟨Γ, O, τ, n, _, q, hw, fun c H1 O1 τ1 n1 q1 hq => by
    cases c with
    | false => exact ⟨Γ, O1, τ1, n1, Q', q1, hq, k⟩
    | true => exact k true H1 O1 τ1 n1 q1 hq⟩
theorem ve_and (ha : PE X a (liftE K W wa)) (hb : PE X (.BoolOp .And (b :: rest) pos) (liftE K W wb)) : PE X (.BoolOp .And (a :: b :: rest) pos) (liftE K W (wAndV wa wb)) := BF.PE.imp (pe_and ha hb) fun σ H Q ⟨Γ, O, τ, n, Q', q, hw, k⟩ =>
  ⟨Γ, O, τ, n, _, q, hw, fun v H1 d O1 τ1 n1 q1 d1 ⟨c, ec, hq⟩ => by
    subst ec
    refine ⟨c, bl_of d1, ?_⟩
    cases c with
    | true => exact ⟨Γ, O1, τ1, n1, Q', q1, hq, k⟩
    | false => exact k _ H1 _ O1 τ1 n1 q1 (.bl false) hq⟩
theorem ve_or (ha : PE X a (liftE K W wa)) (hb : PE X (.BoolOp .Or (b :: rest) pos) (liftE K W wb)) : PE X (.BoolOp .Or (a :: b :: rest) pos) (liftE K W (wOrV wa wb)) := BF.PE.imp (pe_or ha hb) fun σ H Q ⟨Γ, O, τ, n, Q', q, hw, k⟩ =>
  ⟨Γ, O, τ, n, _, q, hw, fun v H1 d O1 τ1 n1 q1 d1 ⟨c, ec, hq⟩ => by
    subst ec
    refine ⟨c, bl_of d1, ?_⟩
    cases c with
    | false => exact ⟨Γ, O1, τ1, n1, Q', q1, hq, k⟩
    | true => exact k _ H1 _ O1 τ1 n1 q1 (.bl true) hq⟩
theorem ve_not (ha : PE X a (liftE K W wa)) : PE X (.UnaryOp .Not a pos) (liftE K W (wNotV wa)) := BF.PE.imp (pe_not ha) fun σ H Q ⟨Γ, O, τ, n, Q', q, hw, k⟩ =>
  ⟨Γ, O, τ, n, _, q, hw, fun v H1 d O1 τ1 n1 q1 d1 ⟨c, ec, hq⟩ => by
    subst ec
    exact ⟨c, bl_of d1, k _ H1 _ O1 τ1 n1 q1 (.bl _) hq⟩⟩
theorem ve_if {c : Expr} (hc : PT X c (liftT K W t)) (ha : PE X a (liftE K W wa)) (hb : PE X b (liftE K W wb)) : PE X (.IfExp c a b pos) (liftE K W (wIf t wa wb)) := BF.PE.imp (pe_ifExp hc ha hb) fun σ H Q ⟨Γ, O, τ, n, Q', q, hw, k⟩ =>
  ⟨Γ, O, τ, n, _, q, hw, fun c H1 O1 τ1 n1 q1 hq => by
    cases c with
    | true => exact ⟨Γ, O1, τ1, n1, Q', q1, hq, k⟩
    | false => exact ⟨Γ, O1, τ1, n1, Q', q1, hq, k⟩⟩
theorem liftChain (hd : DOp K r w) (hd' : DOp K r' w') {σ : L2.St} {H : Hp} {Q : VK} (h : liftE K W (wChain w w' wa wb wc) σ H Q) : tChain r r' (liftE K W wa) (liftE K W wb) (liftE K W wc) σ H Q := by
  obtain ⟨Γ, O, τ, n, Q', q, hw, k⟩ := h
  refine ⟨Γ, O, τ, n, _, q, hw, fun v H1 d O1 τ1 n1 q1 d1 hw1 => ?_⟩
  refine ⟨.d v d :: Γ, O1, τ1, n1, _, q1.gcons d1, hw1, fun u H2 e O2 τ2 n2 q2 d2 hw2 => ?_⟩
  refine hd W.b _ H2 v u d e _ _ q2.al q2.head d2 hw2 fun z H3 f e3 df ⟨x, ex, qx⟩ => ?_
  subst ex
  refine ⟨x, bl_of df, ?_⟩
  have q3 := q2.ex e3
  have d3 := Dat.ey (Ey.ex0 e3) d2
  cases x with
  | true =>
    refine ⟨.d u e :: Γ, O2, τ2, n2, _, (q3.tail).gcons d3, qx, fun u' H4 g O4 τ4 n4 q4 d4 hw4 => ?_⟩
    exact hd' W.b _ H4 u u' e g _ Q q4.al q4.head d4 hw4 fun z H' f e' df qf => k z H' f O4 τ4 n4 (q4.tail.ex e') df qf
  | false => exact k _ H3 _ O2 τ2 n2 q3.tail (.bl false) qx
theorem ve_chain {op op' : CmpOp} (ho : OpR X (compareOp op) r) (ho' : OpR X (compareOp op') r') (hd : DOp K r w) (hd' : DOp K r' w') (ha : PE X a (liftE K W wa)) (hb : PE X b (liftE K W wb)) (hc : PE X c (liftE K W wc))
    (hm : lastMarks [op, op'] [b, c] = false := by with_unfolding_all rfl) : PE X (.Compare a [op, op'] [b, c] pos) (liftE K W (wChain w w' wa wb wc)) := BF.PE.imp (pe_chain ho ho' ha hb hc hm) fun _ _ _ h => liftChain hd hd' h
theorem vt_chain {op op' : CmpOp} (ho : OpR X (compareOp op) r) (ho' : OpR X (compareOp op') r') (hd : DOp K r w) (hd' : DOp K r' w') (ha : PE X a (liftE K W wa)) (hb : PE X b (liftE K W wb)) (hc : PE X c (liftE K W wc))
    (hm : lastMarks [op, op'] [b, c] = false := by with_unfolding_all rfl) : PT X (.Compare a [op, op'] [b, c] pos) (liftT K W (wB (wChain w w' wa wb wc))) := PT.imp (pt_chain ho ho' ha hb hc hm) fun _ _ _ h => liftChain hd hd' (liftB h)
/-! slices -/
def liftP (K : PySem.W.Frag) (W : Wc) (o : Option WE) : TO := fun σ H Q => ∃ (Γ : List Gh) (O : Om) (τ : ST) (n : Int) (Q' : Option Int → ST → Int → Prop), Rel K W Γ O [] τ n σ H ∧ wP o τ n Q' ∧ ∀ i H' O' τ' n', Rel K W Γ O' [] τ' n' σ H' → Q' i τ' n' → Q i H'
theorem PO.imp {o : Option Expr} {t t' : TO} (h : PO X o t) (i : ∀ σ H Q, t' σ H Q → t σ H Q) : PO X o t' := ⟨fun pins s σ H Q I q => h.run pins s σ H Q I (i σ H Q q)⟩
theorem int_of {K : PySem.W.Frag} {b : Addr} {M : List Addr} {H : Hp} {v : V} {x : Int} (h : Dat K b M H v (.int x)) : v = .int x := by cases h; rfl
theorem vo_none : PO X none (liftP K W none) := PO.imp po_none fun σ H Q ⟨Γ, O, τ, n, Q', q, hw, k⟩ => k none H O τ n q hw
theorem vo_some (h : PE X e (liftE K W we)) : PO X (some e) (liftP K W (some we)) := PO.imp (po_some h) fun σ H Q ⟨Γ, O, τ, n, Q', q, hw, k⟩ => ⟨Γ, O, τ, n, _, q, hw, fun v H1 d O1 τ1 n1 q1 d1 ⟨i, ei, hq⟩ => by
  subst ei
  exact ⟨i, int_of d1, k _ H1 O1 τ1 n1 q1 hq⟩⟩
theorem ve_slice {r : V → Option Int → Option Int → Hp → VK → Prop} {w : DV → Option Int → Option Int → (DV → Prop) → Prop} {lo hi : Option Expr} {wl wh : Option WE} {p2 : Pos} (hr : SlR X r) (hd : DSl K r w) (he : PE X e (liftE K W we)) (hl : PO X lo (liftP K W wl)) (hu : PO X hi (liftP K W wh)) :
    PE X (.Subscript e (.Slice lo hi none p2) pos) (liftE K W (wSl w we wl wh)) := by
  refine BF.PE.imp (pe_slice hr he hl hu) fun σ H Q ⟨Γ, O, τ, n, Q', q, hw, k⟩ => ?_
  refine ⟨Γ, O, τ, n, _, q, hw, fun v H1 d O1 τ1 n1 q1 d1 hw1 => ?_⟩
  refine ⟨.d v d :: Γ, O1, τ1, n1, _, q1.gcons d1, hw1, fun l H2 O2 τ2 n2 q2 hw2 => ?_⟩
  refine ⟨.d v d :: Γ, O2, τ2, n2, _, q2, hw2, fun u H3 O3 τ3 n3 q3 hw3 => ?_⟩
  exact hd W.b _ H3 v d l u _ Q q3.al q3.head hw3 fun z H' f e' df qf => k z H' f O3 τ3 n3 (q3.tail.ex e') df qf
/-! calls -/
theorem post_rel {Γ : List Gh} {O : Om} {L : List Addr} {τ : ST} {n n' : Int} {σ : L2.St} {H H' : Hp} (q : Rel K W Γ O L τ n σ H) (p : Post W.toCf (ad O ++ W.M0) H H' n') : Rel K W Γ O L τ n' σ H' := q.step p.ey p.bag p.tab p.al
theorem sub_M0 {O : Om} : ∀ x ∈ W.M0, x ∈ ad O ++ W.M0 := fun _ h => List.mem_append_right _ h
theorem sp_call {sp : DSp} {E' : XV} {E : XK} (hC : Cs W.toCf) (hE : ELinkG K W E' E) {Γ : List Gh} {O : Om} {τ : ST} {n : Int} {σ : L2.St} {H : Hp} {vs : List V} {ds : List DV} {Q : VK} {Q' : DV → ST → Int → Prop} (q : Rel K W Γ O [] τ n σ H) (hd : DatL K W.b (ad O ++ W.M0) H vs ds) (hw : sp ds n (fun d n2 => Q' d τ n2) E')
    (k : ∀ v H' d O' τ' n', Rel K W Γ O' [] τ' n' σ H' → Dat K W.b (ad O' ++ W.M0) H' v d → Q' d τ' n' → Q v H') : liftSp K Cs sp vs H Q E := by
  refine ⟨W.toCf, ad O ++ W.M0, n, ds, _, E', hC, List.mem_append_right _ W.bm, q.al, q.bag, q.tab, hd, hw, fun v H' d n' p dd hq => k v H' d O τ n' (post_rel q p) dd hq, fun c ns ws es dd H' n' p h1 h2 h3 h4 => ?_⟩
  exact hE c ns ws es dd H' n' (q.ext.tr (p.ey.sub fun x hx => by rw [List.mem_singleton.mp hx]; exact W.bd)) (fun x hx => p.al x (sub_M0 x hx)) p.bag p.tab h1 h2 (DatL.sub sub_M0 h3) h4
theorem ve_call {sp : DSp} {dvs : List V} {dds : List DV} {E' : XV} {E : XK} (hC : Cs W.toCf) (hE : ELinkG K W E' E) (h : PE X e (tCall (liftSp K Cs sp) dvs E (liftA K W wr))) (hdv : ∀ b M H, DatL K b M H dvs dds) : PE X e (liftE K W (wCall sp dds E' wr)) := by
  refine BF.PE.imp h fun σ H Q ⟨Γ, O, τ, n, Q', q, hw, k⟩ => ?_
  exact ⟨Γ, O, τ, n, _, q, hw, fun vs H1 ds O1 τ1 n1 q1 d1 hw1 => sp_call hC hE q1 (DatL.app d1 (hdv _ _ _)) hw1 k⟩
theorem lkup_none {ns : List Str} {vs : List V} {m : Str} (h : ns.contains m = false) : (ns.zip vs).lookup m = none := by
  induction ns generalizing vs with
  | nil => rfl
  | cons x ns ih =>
    rw [List.contains_cons, Bool.or_eq_false_iff] at h
    cases vs with
    | nil => rfl
    | cons v vs =>
      rw [List.zip_cons_cons, List.lookup_cons, h.1]
      exact ih h.2
theorem lkup_some {b : Addr} {M : List Addr} {H : Hp} {f : Str} {x : DV} : ∀ {ns : List Str} {vs : List V} {ds : List DV}, DatL K b M H vs ds → lk ns ds f = some x → ∃ v, (ns.zip vs).lookup f = some v ∧ Dat K b M H v x
  | [], _, _, _, h => by simp [lk] at h
  | n :: ns, _, _, .nil, h => by simp [lk] at h
  | n :: ns, _, _, .cons (v := v) hv l, h => by
    unfold lk at h
    rw [List.zip_cons_cons, List.lookup_cons]
    cases e : f == n with
    | true =>
      rw [e] at h
      simp at h
      subst h
      exact ⟨v, rfl, hv⟩
    | false =>
      rw [e] at h
      simp at h
      exact lkup_some l h
theorem ve_meth {sp : DSp} {dvs : List V} {dds : List DV} {E' : XV} {E : XK} {cl m : Str} {e : Expr} (hC : Cs W.toCf) (hE : ELinkG K W E' E) (h : PE X e (tMeth (He.ga K cl) m (liftSp K Cs sp) dvs E (liftE K W wa) (liftA K W wr))) (hdv : ∀ b M H, DatL K b M H dvs dds) : PE X e (liftE K W (wMeth cl m sp dds E' wa wr)) := by
  refine BF.PE.imp h fun σ H Q ⟨Γ, O, τ, n, Q', q, hw, k⟩ => ?_
  refine ⟨Γ, O, τ, n, _, q, hw, fun v H1 d O1 τ1 n1 q1 d1 ⟨ns, es, ed, hm, hw1⟩ => ?_⟩
  subst ed
  have d1' := d1
  cases d1 with
  | ins h1 h2 h3 h4 =>
    refine ⟨_, _, _, rfl, h1, lkup_none hm, ?_⟩
    refine ⟨.d _ _ :: Γ, O1, τ1, n1, _, q1.gcons d1', hw1, fun vs H2 ds O2 τ2 n2 q2 d2 hw2 => ?_⟩
    exact sp_call hC hE q2.tail (.cons q2.head (DatL.app d2 (hdv _ _ _))) hw2 k
theorem ve_fld {f : Str} (h : PE X e (tFld K (liftE K W wa) f)) : PE X e (liftE K W (wFld K wa f)) := by
  refine BF.PE.imp h fun σ H Q ⟨Γ, O, τ, n, Q', q, hw, k⟩ => ?_
  refine ⟨Γ, O, τ, n, _, q, hw, fun v H1 d O1 τ1 n1 q1 d1 ⟨c, ns, es, x, ed, ok, hl, hq⟩ => ?_⟩
  subst ed
  cases d1 with
  | ins h1 h2 h3 h4 =>
    obtain ⟨v, hv, dv⟩ := lkup_some h4 hl
    exact ⟨_, _, _, _, v, rfl, h1, ok.1, ok.2, hv, k v H1 x O1 τ1 n1 q1 dv hq⟩
theorem ve_fldS {i : Nat} {f : Str} (h : PE X e (tFld K (tVar i) f)) : PE X e (liftE K W (wFldS K i f)) := by
  refine BF.PE.imp h fun σ H Q ⟨Γ, O, τ, n, Q', q, ⟨z, c, ns, es, x, hs, ok, hl, hq⟩, k⟩ => ?_
  rcases hs with hs | hs
  · obtain ⟨v, hv, dx, vs, e1, e2, e3, e4, e5⟩ := q.slot i _ hs
    obtain ⟨u, hu, du⟩ := lkup_some e5 hl
    exact ⟨v, hv, z, _, dx, _, u, e1, e3, ok.1, ok.2, hu, k u H x O τ n q du hq⟩
  · obtain ⟨v, hv, dd⟩ := q.slot i _ hs
    cases (dd : Dat K W.b ([] ++ ad O ++ W.M0) H v (.ins c ns es)) with
    | ins h1 h2 h3 h4 =>
      obtain ⟨u, hu, du⟩ := lkup_some h4 hl
      exact ⟨_, hv, _, _, _, _, u, rfl, h1, ok.1, ok.2, hu, k u H x O τ n q du hq⟩
end
end VF
/-! ## Readings of statements by data alone -/
namespace VF
open PySem PySem.Spec PyProof.Rows L2
structure WEnds where
  nx : ST → Int → Prop
  rt : DV → Int → Prop
  bk : ST → Int → Prop := fun _ _ => False
  ct : ST → Int → Prop := fun _ _ => False
abbrev WS := WEnds → ST → Int → Prop
abbrev WG := DV → ST → (ST → Prop) → Prop
abbrev WGs := List DV → ST → (ST → Prop) → Prop
structure Ret (K : PySem.W.Frag) (W : Wc) (v : V) (H : Hp) (d : DV) (n : Int) : Prop where
  ey : Ey W.Md W.H0 H
  bag : W.B H n
  tab : LamX.Tabs W.T H
  al : AlN W.M0 H
  dat : Dat K W.b W.M0 H v d
structure Lk (K : PySem.W.Frag) (W : Wc) (Γ : List Gh) (D' : WEnds) (D : Ends) : Prop where
  nx : ∀ σ H τ n O, Rel K W Γ O [] τ n σ H → D'.nx τ n → D.nx σ H
  bk : ∀ σ H τ n O, Rel K W Γ O [] τ n σ H → D'.bk τ n → D.bk σ H
  ct : ∀ σ H τ n O, Rel K W Γ O [] τ n σ H → D'.ct τ n → D.ct σ H
  rt : ∀ v H d n, Ret K W v H d n → D'.rt d n → D.rt v H
def liftS (K : PySem.W.Frag) (W : Wc) (w : WS) : TS := fun D σ H => ∃ Γ O τ n D', Rel K W Γ O [] τ n σ H ∧ w D' τ n ∧ Lk K W Γ D' D
/-- alike but at the slots S -/
def Sm {α : Type} (S : List Nat) (σ σ' : List α) : Prop := σ'.length = σ.length ∧ ∀ i, i ∉ S → σ'[i]? = σ[i]?
def liftG (K : PySem.W.Frag) (W : Wc) (S : List Nat) (g : WG) : TG := fun v σ H Q => ∃ Γ O τ n d Q', Rel K W Γ O [] τ n σ H ∧ Dat K W.b (ad O ++ W.M0) H v d ∧ g d τ Q' ∧ ∀ σ' O' τ', Sm S σ σ' → Rel K W Γ O' [] τ' n σ' H → Q' τ' → Q σ' H
def liftGs (K : PySem.W.Frag) (W : Wc) (S : List Nat) (g : WGs) : TGs := fun vs σ H Q => ∃ Γ O τ n ds Q', Rel K W Γ O [] τ n σ H ∧ DatL K W.b (ad O ++ W.M0) H vs ds ∧ g ds τ Q' ∧ ∀ σ' O' τ', Sm S σ σ' → Rel K W Γ O' [] τ' n σ' H → Q' τ' → Q σ' H
theorem Sm.refl {α : Type} {S : List Nat} (σ : List α) : Sm S σ σ := ⟨rfl, fun _ _ => rfl⟩
theorem Sm.tr {α : Type} {S S' : List Nat} {a b c : List α} (h : Sm S a b) (k : Sm S' b c) : Sm (S ++ S') a c := ⟨k.1.trans h.1, fun i hi => (k.2 i fun z => hi (List.mem_append_right _ z)).trans (h.2 i fun z => hi (List.mem_append_left _ z))⟩
theorem Sm.set {α : Type} {σ : List α} {i : Nat} {x : α} : Sm [i] σ (σ.set i x) := ⟨List.length_set, fun j hj => List.getElem?_set_ne fun z => hj (by rw [z]; exact List.mem_singleton.mpr rfl)⟩
/-! the readings -/
def wNext : WS := fun D τ n => D.nx τ n
def wSeq (s t : WS) : WS := fun D τ n => s { D with nx := t D } τ n
def wSet (i : Nat) (we : WE) : WS := fun D τ n => we τ n fun d τ1 n1 => D.nx (τ1.set i (some (.d d))) n1
def wSetO (i : Nat) (wo : WA) : WS := fun D τ n => wo τ n fun ds τ1 n1 => D.nx (τ1.set i (some (.own ds))) n1
def wAsg (we : WE) (g : WG) : WS := fun D τ n => we τ n fun d τ1 n1 => g d τ1 fun τ2 => D.nx τ2 n1
def wPar (i j : Nat) (wa : WA) : WS := fun D τ n => wa τ n fun ds τ1 n1 => ∃ d e, ds = [d, e] ∧ D.nx ((τ1.set i (some (.d d))).set j (some (.d e))) n1
def wRet (we : WE) : WS := fun D τ n => we τ n fun d _ n1 => D.rt d n1
def wRetN : WS := fun D _ n => D.rt .non n
def wIfS (t : WT) (u v : WS) : WS := fun D τ n => t τ n fun b τ1 n1 => if b = true then u D τ1 n1 else v D τ1 n1
def wDrop (we : WE) : WS := fun D τ n => we τ n fun _ τ1 n1 => D.nx τ1 n1
def wBrk : WS := fun D τ n => D.bk τ n
def wCnt : WS := fun D τ n => D.ct τ n
def wApp (i : Nat) (wa : WA) : WS := fun D τ n => (∃ xs, τ[i]? = some (some (.own xs))) ∧ wa τ n fun ds τ1 n1 => ∃ d xs, ds = [d] ∧ τ1[i]? = some (some (.own xs)) ∧ xs.length < 1000000 ∧ D.nx (τ1.set i (some (.own (xs ++ [d])))) n1
def wSetI (i : Nat) (wx we : WE) : WS := fun D τ n => we τ n fun d τ1 n1 => (∃ xs, τ1[i]? = some (some (.own xs))) ∧ wx τ1 n1 fun k τ2 n2 => ∃ z j xs, k = .int z ∧ τ2[i]? = some (some (.own xs)) ∧ ixN xs.length z = some j ∧ D.nx (τ2.set i (some (.own (xs.set j d)))) n2
def pfN (f : Str) : List Str → List Str
  | [] => [f]
  | g :: r => if g = f then f :: r else g :: pfN f r
def pfD (f : Str) (d : DV) : List Str → List DV → List DV
  | g :: r, x :: xs => if g = f then d :: xs else x :: pfD f d r xs
  | _, _ => [d]
def wSetF (K : PySem.W.Frag) (i : Nat) (f : Str) (we : WE) : WS := fun D τ n => we τ n fun d τ1 n1 => ∃ z c ns ds, τ1[i]? = some (some (.self z c ns ds)) ∧ AtOk K c f ∧ ns.length < 100 ∧ D.nx (τ1.set i (some (.self z c (pfN f ns) (pfD f d ns ds)))) n1
def wName (i : Nat) : WG := fun d τ Q => Q (τ.set i (some (.d d)))
def wGNil : WGs := fun ds τ Q => ds = [] ∧ Q τ
def wGCons (g : WG) (gs : WGs) : WGs := fun ds τ Q => ∃ d r, ds = d :: r ∧ g d τ fun τ' => gs r τ' Q
def wGTup (n : Nat) (gs : WGs) : WG := fun d τ Q => ∃ ds, d = .tup ds ∧ ds.length = n ∧ gs ds τ Q
def wWhile (t : WT) (wb : WS) : WS := fun D τ n => ∃ I : Nat → ST → Int → Prop, (∃ m, I m τ n) ∧ ∀ m τ n, I m τ n → t τ n fun b τ1 n1 => if b = true then wb { D with nx := fun τ2 n2 => ∃ m', m' < m ∧ I m' τ2 n2, ct := fun τ2 n2 => ∃ m', m' < m ∧ I m' τ2 n2, bk := D.nx } τ1 n1 else D.nx τ1 n1
/-- by an invariant of the turn, the slots, the draws -/
def wLoop (g : WG) (wb : WS) (D : WEnds) (ds : List DV) (τ : ST) (n : Int) : Prop := ∃ I : Nat → ST → Int → Prop, I 0 τ n ∧
  (∀ i d τ n, ds[i]? = some d → I i τ n → g d τ fun τ1 => wb { D with nx := I (i + 1), ct := I (i + 1), bk := D.nx } τ1 n) ∧ ∀ τ n, I ds.length τ n → D.nx τ n
def wFor (wi : WA) (g : WG) (wb : WS) : WS := fun D τ n => wi τ n fun ds τ1 n1 => wLoop g wb D ds τ1 n1
def wRaise (c : Str) (ns : List Str) (gd : List DV → List DV) (k : Nat) (E' : XV) (wa : WA) : WS := fun _ τ n => wa τ n fun ds _ n1 => ds.length = k ∧ E' c ns (gd ds) n1
/-- J walks these data -/
def Wkd (K : PySem.W.Frag) (b : Addr) (J : It) (gs : List Gh) (ds : List DV) : Prop := ∃ (G : Hp → Prop) (Y : Nat → Hp → V → Hp → Prop), Walk J ds.length G Y ∧ (∀ (O : Om) M H, (∀ g ∈ gs, GhOk K b O M H g) → G H) ∧
  ∀ (O : Om) M H i x H', (∀ g ∈ gs, GhOk K b O M H g) → AlN M H → i < ds.length → Y i H x H' → BF.Ex [] H H' ∧ ∃ d, ds[i]? = some d ∧ Dat K b M H' x d
def liftI (K : PySem.W.Frag) (W : Wc) (wi : WA) : TI := fun σ H R => ∃ Γ O τ n Q', Rel K W Γ O [] τ n σ H ∧ wi τ n Q' ∧ ∀ J H' gs ds O' τ' n', Rel K W (gs ++ Γ) O' [] τ' n' σ H' → Wkd K W.b J gs ds → Q' ds τ' n' → R J H'
section
variable {K : PySem.W.Frag} {W : Wc} {Γ Γ' : List Gh} {O : Om} {τ : ST} {n : Int} {σ : L2.St} {H H' : Hp}
theorem nd_inj : ∀ {O : Om}, (ad O).Nodup → ∀ {i j : Nat} {a : Addr}, (i, a) ∈ O → (j, a) ∈ O → i = j
  | [], _, _, _, _, h, _ => nomatch h
  | x :: O, nd, i, j, a, hp, hq => by
    obtain ⟨n1, n2⟩ := List.nodup_cons.mp nd
    rcases List.mem_cons.mp hp with e1 | h1
    · rcases List.mem_cons.mp hq with e2 | h2
      · rw [← e1] at e2
        exact (Prod.mk.inj e2).1.symm
      · exact absurd (List.mem_map.mpr ⟨_, h2, by rw [← e1]⟩) n1
    · rcases List.mem_cons.mp hq with e2 | h2
      · exact absurd (List.mem_map.mpr ⟨_, h1, by rw [← e2]⟩) n1
      · exact nd_inj n2 h1 h2
theorem f_sub {i : Nat} : ∀ y ∈ ad (O.filter (fun p => decide (p.1 ≠ i))) ++ W.M0, y ∈ ad O ++ W.M0 := fun y hy => by
  rcases List.mem_append.mp hy with hy | hy
  · obtain ⟨p, hp, e⟩ := List.mem_map.mp hy
    exact List.mem_append_left _ (List.mem_map.mpr ⟨p, (List.mem_filter.mp hp).1, e⟩)
  · exact List.mem_append_right _ hy
/-- a slot is set -/
theorem Rel.put (q : Rel K W Γ O [] τ n σ H) {i : Nat} {v : V} {d : DV} (i6 : i < 1000000) (hd : Dat K W.b (ad O ++ W.M0) H v d) : Rel K W Γ (O.filter (fun p => decide (p.1 ≠ i))) [] (τ.set i (some (.d d))) n (σ.set i (some v)) H := by
  refine ⟨by rw [List.length_set, List.length_set]; exact q.len, by rw [List.length_set]; exact q.few, fun j s hj => ?_, fun g hg => (q.gh g hg).sub f_sub fun j a h1 h2 => List.mem_filter.mpr ⟨h2, decide_eq_true (show j ≠ i by omega)⟩, q.nd.sublist (List.Sublist.map _ List.filter_sublist), fun p hp => q.own p (List.mem_filter.mp hp).1, q.ext, q.bag, q.bag0, q.tab, fun y hy => q.al y (f_sub y hy), q.al0, q.mdb⟩
  by_cases e : j = i
  · subst e
    by_cases hi : j < τ.length
    · rw [List.getElem?_set_self hi] at hj
      cases hj
      exact ⟨v, by rw [List.getElem?_set_self (by rw [← q.len]; exact hi)], Dat.sub f_sub hd⟩
    · rw [List.getElem?_eq_none (by rw [List.length_set]; omega)] at hj
      cases hj
  · rw [List.getElem?_set_ne (Ne.symm e)] at hj ⊢
    obtain ⟨u, hu, k⟩ := q.slot j s hj
    exact ⟨u, hu, k.sub f_sub fun a ha => List.mem_filter.mpr ⟨ha, decide_eq_true e⟩⟩
/-- a slot is set to a new list of its own -/
theorem Rel.putO {a : Addr} {vs : List V} {ds : List DV} (q : Rel K W Γ O [a] τ n σ H) {i : Nat} (i6 : i < 1000000) (ha : H a = some (.lst vs)) (hn : a ∉ ad O ++ W.M0) (oc : OwnC W a) (hd : DatL K W.b (a :: (ad O ++ W.M0)) H vs ds) :
    Rel K W Γ ((i, a) :: O.filter (fun p => decide (p.1 ≠ i))) [] (τ.set i (some (.own ds))) n (σ.set i (some (.ref a))) H := by
  have s : ∀ y ∈ ad ((i, a) :: O.filter (fun p => decide (p.1 ≠ i))) ++ W.M0, y ∈ a :: (ad O ++ W.M0) := fun y hy => by
    rcases List.mem_cons.mp (show y ∈ a :: (ad (O.filter (fun p => decide (p.1 ≠ i))) ++ W.M0) from hy) with rfl | hy
    · exact List.mem_cons_self
    · exact List.mem_cons_of_mem _ (f_sub y hy)
  refine ⟨by rw [List.length_set, List.length_set]; exact q.len, by rw [List.length_set]; exact q.few, fun j s' hj => ?_, fun g hg => (q.gh g hg).sub s fun j a h1 h2 => List.mem_cons_of_mem _ (List.mem_filter.mpr ⟨h2, decide_eq_true (show j ≠ i by omega)⟩), ?_, fun p hp => ?_, q.ext, q.bag, q.bag0, q.tab, fun y hy => ?_, q.al0, q.mdb⟩
  · by_cases e : j = i
    · subst e
      by_cases hi : j < τ.length
      · rw [List.getElem?_set_self hi] at hj
        cases hj
        exact ⟨.ref a, by rw [List.getElem?_set_self (by rw [← q.len]; exact hi)], a, vs, rfl, List.mem_cons_self, ha, DatL.sub s hd⟩
      · rw [List.getElem?_eq_none (by rw [List.length_set]; omega)] at hj
        cases hj
    · rw [List.getElem?_set_ne (Ne.symm e)] at hj ⊢
      obtain ⟨u, hu, k⟩ := q.slot j s' hj
      exact ⟨u, hu, k.sub s fun a ha => List.mem_cons_of_mem _ (List.mem_filter.mpr ⟨ha, decide_eq_true e⟩)⟩
  · refine List.nodup_cons.mpr ⟨fun z => hn ?_, q.nd.sublist (List.Sublist.map _ List.filter_sublist)⟩
    obtain ⟨p, hp, e⟩ := List.mem_map.mp z
    exact List.mem_append_left _ (List.mem_map.mpr ⟨p, (List.mem_filter.mp hp).1, e⟩)
  · rcases List.mem_cons.mp hp with rfl | hp
    · exact oc
    · exact q.own p (List.mem_filter.mp hp).1
  · rcases List.mem_cons.mp (s y hy) with rfl | h
    · exact ⟨_, ha, .inl ⟨_, rfl⟩⟩
    · exact q.al y h
theorem tabs_ne {T : List (Addr × Str)} {b : Addr} {o0 : HO} (hb : H b = some o0) (n1 : ∀ ps, o0 ≠ .tbl ps) (n2 : ∀ phi, o0 ≠ .ext phi) (e : BF.Ex [b] H H') (t : LamX.Tabs T H) : LamX.Tabs T H' := fun p hp => by
  obtain ⟨ps, h1, h2, h3⟩ := t p hp
  have n : ∀ {c : Addr} {o : HO}, H c = some o → o ≠ o0 → c ∉ [b] := fun {c o} hc hne z => by
    rw [List.mem_singleton.mp z, hb] at hc
    exact hne (Option.some.inj hc).symm
  refine ⟨ps, e _ _ (n h1 fun z => n1 _ z.symm) h1, h2, fun pos cv hc => ?_⟩
  obtain ⟨c, e1, e2⟩ := h3 pos cv hc
  exact ⟨c, e1, e _ _ (n e2 (by unfold LamX.CodeO; exact fun z => n2 _ z.symm)) e2⟩
/-- what a slot owns is changed -/
theorem Rel.mut (q : Rel K W Γ O [] τ n σ H) {i : Nat} {a : Addr} {v : V} {o0 : HO} {s' : SV} (i6 : i < 1000000) (hO : (i, a) ∈ O) (ho : H a = some o0) (n1 : ∀ ps, o0 ≠ .tbl ps) (n2 : ∀ phi, o0 ≠ .ext phi) (e : BF.Ex [a] H H') (ha' : ∃ o, H' a = some o ∧ IsM o) (hv : σ[i]? = some (some v))
    (hs : SlOk K W.b O (ad O ++ W.M0) H' i v s') : Rel K W Γ O [] (τ.set i (some s')) n σ H' := by
  have oc := q.own _ hO
  have ain : ∀ x ∈ [a], x ∈ ad O ++ W.M0 := fun x hx => by
    rw [List.mem_singleton.mp hx]
    exact List.mem_append_left _ (List.mem_map.mpr ⟨_, hO, rfl⟩)
  have ee : Ey (ad O ++ W.M0) H H' := (Ey.ex e).sub ain
  refine ⟨by rw [List.length_set]; exact q.len, by rw [List.length_set]; exact q.few, fun j s hj => ?_, fun g hg => (q.gh g hg).ey (Ey.ex e) ain fun j b vs ds eg z => ?_, q.nd, q.own, fun x o hx h0 ht => ?_, W.Bk (fun x o hx h => e x o ?_ h) q.bag, q.bag0, tabs_ne ho n1 n2 e q.tab, fun y hy => ?_, q.al0, q.mdb⟩
  · by_cases ej : j = i
    · subst ej
      have hi : j < τ.length := by
        have := (List.getElem?_eq_some_iff.mp hv).1
        rw [q.len]
        exact this
      rw [List.getElem?_set_self hi] at hj
      cases hj
      exact ⟨v, hv, hs⟩
    · rw [List.getElem?_set_ne (Ne.symm ej)] at hj
      obtain ⟨u, hu, k⟩ := q.slot j s hj
      refine ⟨u, hu, k.ey (Ey.ex e) ain fun b hb z => ?_⟩
      rw [List.mem_singleton] at z
      subst z
      exact ej (nd_inj q.nd hb hO)
  · subst eg
    have h := q.gh _ hg
    rw [List.mem_singleton] at z
    subst z
    have := nd_inj q.nd h.2.1 hO
    have := h.1
    omega
  · have h1 := q.ext x o hx h0 ht
    by_cases z : x = a
    · subst z
      rcases oc.1 o h0 with m | ⟨ps, m⟩
      · exact absurd m hx
      · exact absurd m (ht ps)
    · exact e _ _ (by simpa using z) h1
  · intro z
    rw [List.mem_singleton] at z
    subst z
    exact oc.2.2 hx
  · by_cases z : y = a
    · subst z
      exact ha'
    · obtain ⟨o, h, t⟩ := q.al y hy
      exact ⟨o, e _ _ (by simpa using z) h, t⟩
end
section
variable {K : PySem.W.Frag} {W : Wc} {X : Cx} {a b c e : Expr} {es : List Expr} {wa wb wc we wx : WE} {wr wi : WA} {t : WT} {ws wt wu : WS} {pos pos' : Pos} {st : Stmt} {rest : List Stmt} {g : WG} {gs : WGs} {tg : Expr}
theorem PSs.imp {s : List Stmt} {t t' : TS} (h : PSs X s t) (i : ∀ D σ H, t' D σ H → t D σ H) : PSs X s t' := ⟨fun pins s σ H D I q => h.run pins s σ H D I (i D σ H q)⟩
theorem PG.imp {t t' : TG} (h : PG X tg t) (i : ∀ v σ H Q, t' v σ H Q → t v σ H Q) : PG X tg t' := ⟨fun pins s σ H v u Q I r q => h.run pins s σ H v u Q I r (i v σ H Q q)⟩
theorem PGs.imp {t t' : TGs} (h : PGs X es t) (i : ∀ v σ H Q, t' v σ H Q → t v σ H Q) : PGs X es t' := ⟨fun pins s σ H v u Q I r q => h.run pins s σ H v u Q I r (i v σ H Q q)⟩
theorem PI.imp {wi wi' : TI} (h : PI X tg e wi) (i : ∀ σ H R, wi' σ H R → wi σ H R) : PI X tg e wi' := ⟨fun pins s σ H R I q => h.run pins s σ H R I (i σ H R q)⟩
theorem vss_nil : PSs X [] (liftS K W wNext) := PSs.imp pss_nil fun D σ H ⟨Γ, O, τ, n, D', q, hw, l⟩ => l.nx σ H τ n O q hw
theorem vss_one (h : PS X st (liftS K W ws)) : PSs X [st] (liftS K W ws) := pss_one h
theorem vss_cons (h1 : PS X st (liftS K W ws)) (h2 : PSs X rest (liftS K W wt)) : PSs X (st :: rest) (liftS K W (wSeq ws wt)) := PSs.imp (pss_cons h1 h2) fun D σ H ⟨Γ, O, τ, n, D', q, hw, l⟩ =>
  ⟨Γ, O, τ, n, _, q, hw, ⟨fun σ' H' τ' n' O' q' hq => ⟨Γ, O', τ', n', D', q', hq, l⟩, l.bk, l.ct, l.rt⟩⟩
theorem vs_pass (h : PS X st tNext) : PS X st (liftS K W wNext) := BF.PS.imp' h fun D σ H ⟨Γ, O, τ, n, D', q, hw, l⟩ => l.nx σ H τ n O q hw
theorem vs_brk (h : PS X st tBreak) : PS X st (liftS K W wBrk) := BF.PS.imp' h fun D σ H ⟨Γ, O, τ, n, D', q, hw, l⟩ => l.bk σ H τ n O q hw
theorem vs_cnt (h : PS X st tCont) : PS X st (liftS K W wCnt) := BF.PS.imp' h fun D σ H ⟨Γ, O, τ, n, D', q, hw, l⟩ => l.ct σ H τ n O q hw
theorem vs_set {i : Nat} (h : PS X st (tAsg (liftE K W we) (gName i))) (i6 : i < 1000000 := by decide) : PS X st (liftS K W (wSet i we)) := BF.PS.imp' h fun D σ H ⟨Γ, O, τ, n, D', q, hw, l⟩ =>
  ⟨Γ, O, τ, n, _, q, hw, fun v H1 d O1 τ1 n1 q1 d1 hq => l.nx _ H1 _ n1 _ (q1.put i6 d1) hq⟩
theorem vs_setO {i : Nat} (h : PS X st (tAsg (liftO K W wr) (gName i))) (i6 : i < 1000000 := by decide) : PS X st (liftS K W (wSetO i wr)) := BF.PS.imp' h fun D σ H ⟨Γ, O, τ, n, D', q, hw, l⟩ =>
  ⟨Γ, O, τ, n, _, q, hw, fun a vs H1 ds O1 τ1 n1 q1 h1 h2 h3 d1 hq => l.nx _ H1 _ n1 _ (q1.putO i6 h1 h2 h3 d1) hq⟩
theorem vg_name {i : Nat} (h : PG X tg (gName i)) (i6 : i < 1000000 := by decide) : PG X tg (liftG K W [i] (wName i)) := PG.imp h fun v σ H Q ⟨Γ, O, τ, n, d, Q', q, hd, hw, k⟩ => k _ _ _ Sm.set (q.put i6 hd) hw
theorem vgs_nil : PGs X [] (liftGs K W [] wGNil) := PGs.imp pgs_nil fun vs σ H Q ⟨Γ, O, τ, n, ds, Q', q, hd, ⟨e, hw⟩, k⟩ => by
  subst e
  cases hd
  exact ⟨rfl, k _ _ _ (Sm.refl _) q hw⟩
theorem vgs_cons {S S' : List Nat} (h1 : PG X e (liftG K W S g)) (h2 : PGs X es (liftGs K W S' gs)) (hs : (assignEach (e :: es) X.env).map (·.2) = assign e X.env :: (assignEach es X.env).map (·.2) := by rfl) : PGs X (e :: es) (liftGs K W (S ++ S') (wGCons g gs)) :=
  PGs.imp (pgs_cons h1 h2 hs) fun vs σ H Q ⟨Γ, O, τ, n, ds, Q', q, hd, ⟨d, r, e, hw⟩, k⟩ => by
    subst e
    cases hd with
    | cons dv dl =>
      refine ⟨_, _, rfl, .dl _ _ :: Γ, O, τ, n, d, _, q.gcons dl, dv, hw, fun σ' O' τ' m' q' hq => ?_⟩
      exact ⟨Γ, O', τ', n, r, Q', q'.tail, q'.gh (.dl _ _) List.mem_cons_self, hq, fun σ'' O'' τ'' m'' q'' hq'' => k _ _ _ (m'.tr m'') q'' hq''⟩
theorem vg_tup {S : List Nat} {k m : Nat} (hK : X.K = K) (hc : X.calm = true) (h : PGs X es (liftGs K W S gs)) (hn : (assignEach es X.env).length = m := by rfl) (hst : (assignEach es X.env).findIdx? (·.1) = none := by rfl) : PG X (.Tuple es k pos) (liftG K W S (wGTup m gs)) := by
  subst hK
  refine PG.imp (pg_tup hc h hn hst) fun v σ H Q ⟨Γ, O, τ, n, d, Q', q, hd, ⟨ds, e, hl, hw⟩, k⟩ => ?_
  subst e
  cases hd with
  | tup h1 h2 => exact ⟨_, _, rfl, h1.1, by rw [h2.length]; exact hl, Γ, O, τ, n, ds, Q', q, h2, hw, k⟩
theorem vs_asg {S : List Nat} (h : PS X st (tAsg (liftE K W we) (liftG K W S g))) : PS X st (liftS K W (wAsg we g)) := BF.PS.imp' h fun D σ H ⟨Γ, O, τ, n, D', q, hw, l⟩ =>
  ⟨Γ, O, τ, n, _, q, hw, fun v H1 d O1 τ1 n1 q1 d1 hq => ⟨Γ, O1, τ1, n1, d, _, q1, d1, hq, fun σ' O' τ' _ q' hq' => l.nx σ' H1 τ' n1 O' q' hq'⟩⟩
theorem vs_par {i j : Nat} (h : PS X st (tPar i j (liftA K W wr))) (i6 : i < 1000000 := by decide) (j6 : j < 1000000 := by decide) : PS X st (liftS K W (wPar i j wr)) := BF.PS.imp' h fun D σ H ⟨Γ, O, τ, n, D', q, hw, l⟩ =>
  ⟨Γ, O, τ, n, _, q, hw, fun vs H1 ds O1 τ1 n1 q1 d1 ⟨d, e, ed, hq⟩ => by
    subst ed
    cases d1 with
    | cons h1 h2 =>
      cases h2 with
      | cons h2 h3 =>
        cases h3
        exact ⟨_, _, rfl, l.nx _ H1 _ n1 _ ((q1.put i6 h1).put j6 (Dat.sub f_sub h2)) hq⟩⟩
theorem vs_ret (h : PS X st (tRet (liftE K W we))) : PS X st (liftS K W (wRet we)) := BF.PS.imp' h fun D σ H ⟨Γ, O, τ, n, D', q, hw, l⟩ =>
  ⟨Γ, O, τ, n, _, q, hw, fun v H1 d O1 τ1 n1 q1 d1 hq => l.rt v H1 d n1 ⟨q1.ext, q1.bag, q1.tab, fun x hx => q1.al x (sub_M0 x hx), Dat.sub sub_M0 d1⟩ hq⟩
theorem vs_retN (h : PS X st tRetN) : PS X st (liftS K W wRetN) := BF.PS.imp' h fun D σ H ⟨Γ, O, τ, n, D', q, hw, l⟩ => l.rt .non H .non n ⟨q.ext, q.bag, q.tab, fun x hx => q.al x (sub_M0 x hx), .non⟩ hw
theorem vs_if {c : Expr} {x y : List Stmt} (hc : PT X c (liftT K W t)) (h1 : PSs X x (liftS K W ws)) (h2 : PSs X y (liftS K W wt)) : PS X (.If c x y pos) (liftS K W (wIfS t ws wt)) := BF.PS.imp' (ps_if hc h1 h2) fun D σ H ⟨Γ, O, τ, n, D', q, hw, l⟩ =>
  ⟨Γ, O, τ, n, _, q, hw, fun b H1 O1 τ1 n1 q1 hq => by
    cases b with
    | true => exact ⟨Γ, O1, τ1, n1, D', q1, hq, l⟩
    | false => exact ⟨Γ, O1, τ1, n1, D', q1, hq, l⟩⟩
theorem vs_drop (h : PS X st (tDrop (liftE K W we))) : PS X st (liftS K W (wDrop we)) := BF.PS.imp' h fun D σ H ⟨Γ, O, τ, n, D', q, hw, l⟩ => ⟨Γ, O, τ, n, _, q, hw, fun v H1 d O1 τ1 n1 q1 d1 hq => l.nx _ H1 _ n1 _ q1 hq⟩
theorem vs_app {i : Nat} (h : PS X st (tDrop (tBM K "list" rAppend (tVar i) (liftA K W wr)))) (i6 : i < 1000000 := by decide) : PS X st (liftS K W (wApp i wr)) := BF.PS.imp' h fun D σ H ⟨Γ, O, τ, n, D', q, ⟨⟨xs0, h0⟩, hw⟩, l⟩ => by
  obtain ⟨v, hv, a, vs, e1, e2, e3, e4⟩ := q.slot i _ h0
  subst e1
  refine ⟨_, hv, BF.x_tyL e3 ?_⟩
  · refine ⟨Γ, O, τ, n, _, q, hw, fun us H1 ds O1 τ1 n1 q1 d1 ⟨d, xs, ed, hx, hl, hq⟩ => ?_⟩
    subst ed
    cases d1 with
    | @cons v1 vs1 _ _ dd dn =>
      cases dn
      obtain ⟨v', hv', a', vs', f1, f2, f3, f4⟩ := q1.slot i _ hx
      obtain rfl : V.ref a = v' := by
        rw [hv] at hv'
        exact Option.some.inj (Option.some.inj hv')
      cases f1
      refine ⟨a, vs', _, rfl, rfl, f3, BF.sz_lt (by rw [f4.length]; exact hl), ?_⟩
      refine l.nx _ _ _ n1 O1 (q1.mut (s' := .own _) i6 f2 f3 nofun nofun (BF.Ex.wr (by simp) (BF.Ex.refl H1)) ⟨_, upd_same, .inl ⟨_, rfl⟩⟩ hv ⟨a, _, rfl, f2, upd_same, ?_⟩) hq
      have ee : Ey (ad O1 ++ W.M0) H1 (upd H1 a (.lst (vs' ++ [v1]))) := (Ey.ex (BF.Ex.wr (M := [a]) (by simp) (BF.Ex.refl H1))).sub fun x hx => by
        rw [List.mem_singleton.mp hx]
        exact List.mem_append_left _ (List.mem_map.mpr ⟨_, f2, rfl⟩)
      exact DatL.app (DatL.ey ee f4) (.cons (Dat.ey ee dd) .nil)
theorem vs_setI {i : Nat} (h : PS X st (tAsg (liftE K W we) (gSub (tVar i) (liftE K W wx) rSetL))) (i6 : i < 1000000 := by decide) : PS X st (liftS K W (wSetI i wx we)) := BF.PS.imp' h fun D σ H ⟨Γ, O, τ, n, D', q, hw, l⟩ => by
  refine ⟨Γ, O, τ, n, _, q, hw, fun v H1 d O1 τ1 n1 q1 d1 ⟨⟨xs0, h0⟩, hw1⟩ => ?_⟩
  obtain ⟨u, hu, a, vs, e1, e2, e3, e4⟩ := q1.slot i _ h0
  refine ⟨u, hu, .d v d :: Γ, O1, τ1, n1, _, q1.gcons d1, hw1, fun kv H2 k O2 τ2 n2 q2 d2 ⟨z, j, xs, ek, hx, hj, hq⟩ => ?_⟩
  subst ek
  obtain ⟨u', hu', a', vs', f1, f2, f3, f4⟩ := q2.slot i _ hx
  obtain rfl : u = u' := by
    rw [hu] at hu'
    exact Option.some.inj (Option.some.inj hu')
  subst f1
  refine ⟨a', vs', z, j, rfl, int_of d2, f3, by rw [f4.length]; exact hj, ?_⟩
  refine l.nx _ _ _ n2 O2 (q2.tail.mut (s' := .own _) i6 f2 f3 nofun nofun (BF.Ex.wr (by simp) (BF.Ex.refl H2)) ⟨_, upd_same, .inl ⟨_, rfl⟩⟩ hu ⟨a', _, rfl, f2, upd_same, ?_⟩) hq
  have ee : Ey (ad O2 ++ W.M0) H2 (upd H2 a' (.lst (vs'.set j v))) := (Ey.ex (BF.Ex.wr (M := [a']) (by simp) (BF.Ex.refl H2))).sub fun x hx => by
    rw [List.mem_singleton.mp hx]
    exact List.mem_append_left _ (List.mem_map.mpr ⟨_, f2, rfl⟩)
  exact DatL.set j (DatL.ey ee f4) (Dat.ey ee q2.head)
theorem putF_zip {b : Addr} {M : List Addr} {H : Hp} {f : Str} {v : V} {d : DV} (hd : Dat K b M H v d) : ∀ {ns : List Str} {vs : List V} {ds : List DV}, ns.length = vs.length → DatL K b M H vs ds → ∃ ws, putF f v (ns.zip vs) = (pfN f ns).zip ws ∧ (pfN f ns).length = ws.length ∧ DatL K b M H ws (pfD f d ns ds)
  | [], [], _, _, .nil => ⟨[v], rfl, rfl, .cons hd .nil⟩
  | g :: ns, w :: vs, _, hl, .cons hw l => by
    by_cases e : g = f
    · subst e
      refine ⟨v :: vs, ?_, ?_, ?_⟩
      · rw [List.zip_cons_cons, BF.putF_eq]
        simp [pfN]
      · simp [pfN] at hl ⊢
        exact hl
      · simp only [pfD, if_pos]
        exact .cons hd l
    · obtain ⟨ws, h1, h2, h3⟩ := putF_zip hd (f := f) (ns := ns) (by simpa using hl) l
      refine ⟨w :: ws, ?_, ?_, ?_⟩
      · rw [List.zip_cons_cons, BF.putF_ne e h1]
        simp [pfN, if_neg e]
      · simp [pfN, if_neg e, h2]
      · simp only [pfD, if_neg e]
        exact .cons hw h3
theorem vs_setF {i : Nat} {f : Str} (h : PS X st (BF.sFldE K (tVar i) (liftE K W we) f)) (i6 : i < 1000000 := by decide) : PS X st (liftS K W (wSetF K i f we)) := BF.PS.imp' h fun D σ H ⟨Γ, O, τ, n, D', q, hw, l⟩ => by
  refine ⟨Γ, O, τ, n, _, q, hw, fun v H1 d O1 τ1 n1 q1 d1 ⟨z, c, ns, ds, h0, ok, hl, hq⟩ => ?_⟩
  obtain ⟨u, hu, dx, vs, e1, e2, e3, e4, e5⟩ := q1.slot i _ h0
  obtain ⟨ws, w1, w2, w3⟩ := putF_zip (f := f) d1 e4 e5
  refine ⟨u, hu, z, _, dx, _, _, e1, e3, ok.1, ok.2, ?_, w1, fun H' ex h' => ?_⟩
  · rw [List.length_zip]
    omega
  · have ee : Ey (ad O1 ++ W.M0) H1 H' := (Ey.ex ex).sub fun x hx => by
      rw [List.mem_singleton.mp hx]
      exact List.mem_append_left _ (List.mem_map.mpr ⟨_, e2, rfl⟩)
    exact l.nx _ _ _ n1 O1 (q1.mut (s' := .self _ _ _ _) i6 e2 e3 nofun nofun ex ⟨_, h', .inr ⟨_, _, _, rfl⟩⟩ hu ⟨dx, ws, e1, e2, h', w2, DatL.ey ee w3⟩) hq
theorem vs_while {cond : Expr} {body : List Stmt} (hp : PassesOwn (model X.prog X.w) X.A X.env X.xe) (hc : PT X cond (liftT K W t)) (hb : PSs X body (liftS K W ws)) : PS X (.While cond body [] pos) (liftS K W (wWhile t ws)) :=
  BF.PS.imp' (ps_while hp hc hb) fun D σ H ⟨Γ, O, τ, n, D', q, ⟨I, ⟨m0, h0⟩, hI⟩, l⟩ => by
    refine ⟨fun m σ H => ∃ O τ n, Rel K W Γ O [] τ n σ H ∧ I m τ n, ⟨m0, O, τ, n, q, h0⟩, ?_⟩
    rintro m σ1 H1 ⟨O1, τ1, n1, q1, h1⟩
    refine ⟨Γ, O1, τ1, n1, _, q1, hI m τ1 n1 h1, fun b H2 O2 τ2 n2 q2 hq => ?_⟩
    cases b with
    | false => exact l.nx _ _ _ _ _ q2 hq
    | true =>
      refine ⟨fun σ H => ∃ m', m' < m ∧ ∃ O τ n, Rel K W Γ O [] τ n σ H ∧ I m' τ n, fun _ _ h => h, Γ, O2, τ2, n2, _, q2, hq, ?_⟩
      exact ⟨fun σ H τ n O q ⟨m', hm, hi⟩ => ⟨m', hm, O, τ, n, q, hi⟩, l.nx, fun σ H τ n O q ⟨m', hm, hi⟩ => ⟨m', hm, O, τ, n, q, hi⟩, l.rt⟩
theorem vs_for {S : List Nat} {iter : Expr} {body : List Stmt} (hp : PassesOwn (model X.prog X.w) X.A X.env X.xe) (hc : X.calm = true) (hi : PI X tg iter (liftI K W wi)) (hg : PG X tg (liftG K W S g)) (hb : PSs X body (liftS K W ws))
    (hs : ∀ x, foldedSetIterable iter X.env x = pure x := by intro _; rfl) : PS X (.For tg iter body [] pos) (liftS K W (wFor wi g ws)) :=
  BF.PS.imp' (ps_for hp hc hi hg hb hs) fun D σ H ⟨Γ, O, τ, n, D', q, hw, l⟩ => by
    refine ⟨Γ, O, τ, n, _, q, hw, fun J H1 gs ds O1 τ1 n1 q1 ⟨G, Y, wk, hG, hY⟩ ⟨I, h0, hs, hd⟩ => ?_⟩
    refine for_it wk (fun i σ H => ∃ O τ n, Rel K W (gs ++ Γ) O [] τ n σ H ∧ I i τ n) ⟨O1, τ1, n1, q1, h0⟩ (fun i σ H _ ⟨O, τ, n, q, _⟩ => hG _ _ H fun g hg => q.gh g (List.mem_append_left _ hg)) ?_ ?_
    · rintro i x σ2 H2 H3 hi ⟨O2, τ2, n2, q2, h2⟩ y
      obtain ⟨ex, d, hdd, dd⟩ := hY _ _ H2 i x H3 (fun g hg => q2.gh g (List.mem_append_left _ hg)) q2.al hi y
      refine ⟨gs ++ Γ, O2, τ2, n2, d, _, q2.ex ex, dd, hs i d τ2 n2 hdd h2, fun σ' O' τ' _ q' hq' => ?_⟩
      refine ⟨gs ++ Γ, O', τ', n2, _, q', hq', ?_⟩
      exact ⟨fun σ H τ n O q h => ⟨O, τ, n, q, h⟩, fun σ H τ n O q h => l.nx _ _ _ _ _ q.rest h, fun σ H τ n O q h => ⟨O, τ, n, q, h⟩, l.rt⟩
    · rintro σ2 H2 ⟨O2, τ2, n2, q2, h2⟩
      exact l.nx _ _ _ _ _ q2.rest (hd _ _ h2)
theorem vs_raise {cl : Str} {ns : List Str} {gd : List DV → List DV} {k : Nat} {fs : List V → List (Str × V)} (hE : ELink K W)
    (h : PS X st (fun _ σ H => BF.tRs (He.ga K cl) k fs (liftA K W wr) σ H fun cls d H' => W.E cls d H'))
    (hf : ∀ b M H vs ds, DatL K b M H vs ds → vs.length = k → ∃ ws, fs vs = ns.zip ws ∧ ns.length = ws.length ∧ DatL K b M H ws (gd ds)) : PS X st (liftS K W (wRaise cl ns gd k W.E' wr)) := BF.PS.imp' h fun D σ H ⟨Γ, O, τ, n, D', q, hw, l⟩ => by
  refine ⟨Γ, O, τ, n, _, q, hw, fun vs H1 ds O1 τ1 n1 q1 d1 ⟨hl, hq⟩ => ⟨by rw [d1.length]; exact hl, fun d H' hn ex hd => ?_⟩⟩
  obtain ⟨ws, e1, e2, e3⟩ := hf _ _ _ _ _ d1 (by rw [d1.length]; exact hl)
  have q2 := q1.ex ex
  exact hE cl ns ws (gd ds) d H' n1 q2.ext (fun x hx => q2.al x (sub_M0 x hx)) q2.bag q2.tab (by rw [hd, e1]) e2 (DatL.sub sub_M0 (DatL.ey (Ey.ex0 ex) e3)) hq
end
end VF
/-! ## Comprehensions, what a loop walks, a def by its body -/
namespace VF
open PySem PySem.Spec PyProof.Rows L2
def wipeT (τ : ST) : List Nat → ST
  | [] => τ
  | v :: vs => (wipeT τ vs).set v none
def wYes : WT := fun τ n Q => Q true τ n
/-- the slots vs hold no list of their own -/
def NoOwn (τ : ST) (vs : List Nat) : Prop := ∀ i ∈ vs, ∀ s, τ[i]? = some (some s) → ∃ x, s = .d x
/-- by an invariant of the turn, the list so far, the draws -/
def wLcGo (g : WG) (t : WT) (we : WE) (vs : List Nat) (ds : List DV) (τ : ST) (n : Int) (Q : List DV → ST → Int → Prop) : Prop := ∃ I : Nat → List DV → Int → Prop, I 0 [] n ∧
  (∀ i d acc n, ds[i]? = some d → I i acc n → g d (wipeT τ vs) fun τ1 => t τ1 n fun b τ2 n2 => wipeT τ2 vs = wipeT τ vs ∧ if b = true then we τ2 n2 fun y τ3 n3 => wipeT τ3 vs = wipeT τ vs ∧ acc.length < 1000000 ∧ I (i + 1) (acc ++ [y]) n3 else I (i + 1) acc n2) ∧ ∀ acc n, I ds.length acc n → Q acc τ n
def wLc (wi : WA) (g : WG) (t : WT) (we : WE) (vs : List Nat) : WA := fun τ n Q => wi τ n fun ds τ1 n1 => NoOwn τ1 vs ∧ wLcGo g t we vs ds τ1 n1 Q
def wOL (wo : WA) : WE := fun τ n Q => wo τ n fun ds τ1 n1 => Q (.lst ds) τ1 n1
section
variable {K : PySem.W.Frag} {W : Wc} {Γ Γ' : List Gh} {O : Om} {τ : ST} {n : Int} {σ : L2.St} {H H' : Hp} {L : List Addr}
theorem wipeT_len : ∀ {vs : List Nat}, (wipeT τ vs).length = τ.length
  | [] => rfl
  | v :: vs => by unfold wipeT; rw [List.length_set, wipeT_len (vs := vs)]
theorem wipe_len : ∀ {vs : List Nat}, (wipe σ vs).length = σ.length
  | [] => rfl
  | v :: vs => by unfold wipe; rw [List.length_set, wipe_len (vs := vs)]
theorem wipeT_in : ∀ {vs : List Nat} {i : Nat} {s : SV}, (wipeT τ vs)[i]? = some (some s) → τ[i]? = some (some s) ∧ i ∉ vs
  | [], i, s, h => ⟨h, by simp⟩
  | v :: vs, i, s, h => by
    unfold wipeT at h
    by_cases e : v = i
    · subst e
      by_cases hi : v < (wipeT τ vs).length
      · rw [List.getElem?_set_self hi] at h
        cases h
      · rw [List.getElem?_eq_none (by rw [List.length_set]; omega)] at h
        cases h
    · rw [List.getElem?_set_ne e] at h
      obtain ⟨h1, h2⟩ := wipeT_in h
      exact ⟨h1, fun z => (List.mem_cons.mp z).elim (fun q => e q.symm) h2⟩
theorem wipe_out {α : Type} : ∀ {vs : List Nat} {i : Nat}, i ∉ vs → (wipe σ vs)[i]? = σ[i]?
  | [], i, h => rfl
  | v :: vs, i, h => by
    unfold wipe
    rw [List.getElem?_set_ne fun z => h (by rw [z]; exact List.mem_cons_self)]
    exact wipe_out (α := α) fun z => h (List.mem_cons_of_mem _ z)
theorem wipe_eq_set : ∀ {vs : List Nat} {i : Nat}, i ∈ vs → (wipe σ vs)[i]? = σ[i]?.map fun _ => none
  | v :: vs, i, h => by
    unfold wipe
    by_cases e : v = i
    · subst e
      by_cases hi : v < σ.length
      · rw [List.getElem?_set_self (by rw [wipe_len]; exact hi), List.getElem?_eq_getElem hi]
        rfl
      · rw [List.getElem?_eq_none (by rw [List.length_set, wipe_len]; omega), List.getElem?_eq_none (by omega)]
        rfl
    · rw [List.getElem?_set_ne e]
      exact wipe_eq_set ((List.mem_cons.mp h).elim (fun q => absurd q.symm e) id)
theorem wipe_sm {S vs : List Nat} {σ' : L2.St} (h : Sm S σ σ') (hs : ∀ i ∈ S, i ∈ vs) : wipe σ' vs = wipe σ vs := by
  apply List.ext_getElem?
  intro i
  by_cases hi : i ∈ vs
  · rw [wipe_eq_set hi, wipe_eq_set hi]
    by_cases hl : i < σ.length
    · rw [List.getElem?_eq_getElem (show i < σ'.length by rw [h.1]; exact hl), List.getElem?_eq_getElem hl]
      rfl
    · rw [List.getElem?_eq_none (by rw [h.1]; omega), List.getElem?_eq_none (by omega)]
  · rw [wipe_out (α := Nat) hi, wipe_out (α := Nat) hi]
    exact h.2 i fun z => hi (hs i z)
theorem Rel.wipe (q : Rel K W Γ O L τ n σ H) (vs : List Nat) : Rel K W Γ O L (wipeT τ vs) n (wipe σ vs) H :=
  ⟨by rw [wipeT_len, wipe_len]; exact q.len, by rw [wipeT_len]; exact q.few, fun i s hs => by
    obtain ⟨h1, h2⟩ := wipeT_in hs
    obtain ⟨v, hv, k⟩ := q.slot i s h1
    exact ⟨v, by rw [wipe_out (α := Nat) h2]; exact hv, k⟩, q.gh, q.nd, q.own, q.ext, q.bag, q.bag0, q.tab, q.al, q.al0, q.mdb⟩
/-- what the slots vs held -/
def svG (τ : ST) (σ : L2.St) (vs : List Nat) : List Gh := vs.filterMap fun i => (match τ[i]?, σ[i]? with
  | some (some (SV.d x)), some (some v) => some (Gh.d v x)
  | _, _ => none : Option Gh)
theorem svG_ok (q : Rel K W Γ O [] τ n σ H) {vs : List Nat} : ∀ g ∈ svG τ σ vs, GhOk K W.b O (ad O ++ W.M0) H g := fun g hg => by
  unfold svG at hg
  obtain ⟨i, _, hi⟩ := List.mem_filterMap.mp hg
  split at hi
  · rename_i x v h1 h2
    cases hi
    obtain ⟨u, hu, k⟩ := q.slot i _ h1
    rw [h2] at hu
    cases hu
    exact k
  · cases hi
theorem svG_at {vs : List Nat} {i : Nat} {x : DV} {v : V} (hi : i ∈ vs) (h1 : τ[i]? = some (some (.d x))) (h2 : σ[i]? = some (some v)) : Gh.d v x ∈ svG τ σ vs := by
  unfold svG
  exact List.mem_filterMap.mpr ⟨i, hi, by rw [h1, h2]⟩
/-- a list of the run's own, apart from all -/
theorem Rel.begin (q : Rel K W Γ O [] τ n σ H) {D : Addr} (hD : H D = none) : Rel K W (.o 1000000 D [] [] :: Γ) ((1000000, D) :: O) [] τ n σ (upd H D (.lst [])) := by
  have q1 := q.apart hD (BF.Ex.new (M := []) (o := .lst []) hD)
  refine ⟨q1.len, q1.few, fun i s hs => ?_, fun g hg => ?_, List.nodup_cons.mpr ⟨fun z => q.newO hD (List.mem_append_left _ z), q1.nd⟩, fun p hp => ?_, q1.ext, q1.bag, q1.bag0, q1.tab, fun x hx => ?_, q1.al0, q1.mdb⟩
  · obtain ⟨v, hv, k⟩ := q1.slot i s hs
    exact ⟨v, hv, k.sub (fun x h => h) fun a h => List.mem_cons_of_mem _ h⟩
  · rcases List.mem_cons.mp hg with rfl | hg
    · exact ⟨Nat.le_refl _, List.mem_cons_self, upd_same, .nil⟩
    · exact (q1.gh g hg).sub (fun x h => h) fun j a _ h => List.mem_cons_of_mem _ h
  · rcases List.mem_cons.mp hp with rfl | hp
    · exact q.ownC hD
    · exact q1.own p hp
  · rcases List.mem_cons.mp (show x ∈ D :: (ad O ++ W.M0) from hx) with rfl | hx
    · exact ⟨_, upd_same, .inl ⟨_, rfl⟩⟩
    · exact q1.al x hx
/-- .. grows -/
theorem Rel.grow {j : Nat} {D : Addr} {ws : List V} {acc : List DV} {v : V} {d : DV} (no : ∀ j' vs ds, Gh.o j' D vs ds ∉ Γ) (q : Rel K W (.o j D ws acc :: Γ) O [] τ n σ H) (hd : Dat K W.b (ad O ++ W.M0) H v d) : Rel K W (.o j D (ws ++ [v]) (acc ++ [d]) :: Γ) O [] τ n σ (upd H D (.lst (ws ++ [v]))) := by
  obtain ⟨hj, hO, hw, hl⟩ := q.gh (.o j D ws acc) List.mem_cons_self
  have oc := q.own _ hO
  have e : BF.Ex [D] H (upd H D (.lst (ws ++ [v]))) := BF.Ex.wr (by simp) (BF.Ex.refl H)
  have ain : ∀ x ∈ [D], x ∈ ad O ++ W.M0 := fun x hx => by
    rw [List.mem_singleton.mp hx]
    exact List.mem_append_left _ (List.mem_map.mpr ⟨_, hO, rfl⟩)
  have ee : Ey (ad O ++ W.M0) H (upd H D (.lst (ws ++ [v]))) := (Ey.ex e).sub ain
  have nb : ∀ i b, (i, b) ∈ O → i ≠ j → b ∉ [D] := fun i b hb ne z => by
    rw [List.mem_singleton] at z
    subst z
    exact ne (nd_inj q.nd hb hO)
  refine ⟨q.len, q.few, fun i s hs => ?_, fun g hg => ?_, q.nd, q.own, fun x o hx h0 ht => ?_, W.Bk (fun x o hx h => e x o (fun z => ?_) h) q.bag, q.bag0, tabs_ne hw nofun nofun e q.tab, fun y hy => ?_, q.al0, q.mdb⟩
  · obtain ⟨u, hu, k⟩ := q.slot i s hs
    have hi : i ≠ j := by
      have := (List.getElem?_eq_some_iff.mp hs).1
      have := q.few
      omega
    exact ⟨u, hu, k.ey (Ey.ex e) ain fun b hb => nb i b hb hi⟩
  · rcases List.mem_cons.mp hg with rfl | hg'
    · exact ⟨hj, hO, upd_same, DatL.app (DatL.ey ee hl) (.cons (Dat.ey ee hd) .nil)⟩
    · have k := q.gh g (List.mem_cons_of_mem _ hg')
      cases g with
      | d v x => exact Dat.ey ee k
      | dl vs ds => exact DatL.ey ee k
      | l a vs ds => exact ⟨k.1.ey ee, DatL.ey ee k.2⟩
      | t a vs ds => exact ⟨k.1.ey ee, DatL.ey ee k.2⟩
      | o j' a vs ds =>
        by_cases z : a = D
        · subst z
          exact absurd hg' (no _ _ _)
        · exact ⟨k.1, k.2.1, e _ _ (by simpa using z) k.2.2.1, DatL.ey ee k.2.2.2⟩
  · have h1 := q.ext x o hx h0 ht
    by_cases z : x = D
    · subst z
      rcases oc.1 o h0 with m | ⟨ps, m⟩
      · exact absurd m hx
      · exact absurd m (ht ps)
    · exact e _ _ (by simpa using z) h1
  · rw [List.mem_singleton] at z
    subst z
    exact oc.2.2 hx
  · by_cases z : y = D
    · subst z
      exact ⟨_, upd_same, .inl ⟨_, rfl⟩⟩
    · obtain ⟨o, h, t⟩ := q.al y hy
      exact ⟨o, e _ _ (by simpa using z) h, t⟩
/-- the end of a run's own list: it is a new list now -/
theorem Rel.finish {j : Nat} {D : Addr} {ws : List V} {acc : List DV} {vs : List Nat} {τ0 : ST} {σ0 : L2.St} (q : Rel K W (.o j D ws acc :: (Γ' ++ (svG τ0 σ0 vs ++ Γ))) O [] (wipeT τ0 vs) n (L2.wipe σ0 vs) H) (no : ∀ j' us ds, Gh.o j' D us ds ∉ Γ) (hn : NoOwn τ0 vs) (hl : τ0.length = σ0.length)
    (h0 : ∀ i ∈ vs, ∀ s, τ0[i]? = some (some s) → ∃ v, σ0[i]? = some (some v)) : ∃ O', Rel K W Γ O' [D] τ0 n σ0 H ∧ H D = some (.lst ws) ∧ D ∉ ad O' ++ W.M0 ∧ OwnC W D ∧ DatL K W.b (D :: (ad O' ++ W.M0)) H ws acc := by
  obtain ⟨hj, hO, hw, hd⟩ := q.gh (.o j D ws acc) List.mem_cons_self
  have s : ∀ y ∈ D :: (ad (O.filter (fun p => decide (p.2 ≠ D))) ++ W.M0), y ∈ ad O ++ W.M0 := fun y hy => by
    rcases List.mem_cons.mp hy with rfl | hy
    · exact List.mem_append_left _ (List.mem_map.mpr ⟨_, hO, rfl⟩)
    · rcases List.mem_append.mp hy with hy | hy
      · obtain ⟨p, hp, e⟩ := List.mem_map.mp hy
        exact List.mem_append_left _ (List.mem_map.mpr ⟨p, (List.mem_filter.mp hp).1, e⟩)
      · exact List.mem_append_right _ hy
  refine ⟨O.filter (fun p => decide (p.2 ≠ D)), ⟨hl, by rw [← wipeT_len (τ := τ0) (vs := vs)]; exact q.few, fun i sv hs => ?_, fun g hg => ?_, q.nd.sublist (List.Sublist.map _ List.filter_sublist), fun p hp => q.own p (List.mem_filter.mp hp).1, q.ext, q.bag, q.bag0, q.tab, fun y hy => q.al y (s y (List.mem_cons_of_mem _ hy)), q.al0, q.mdb⟩, hw, fun z => ?_, q.own _ hO, DatL.sub s hd⟩
  · by_cases hi : i ∈ vs
    · obtain ⟨x, rfl⟩ := hn i hi sv hs
      obtain ⟨v, hv⟩ := h0 i hi _ hs
      refine ⟨v, hv, ?_⟩
      have k := q.gh (.d v x) (List.mem_cons_of_mem _ (List.mem_append_right _ (List.mem_append_left _ (svG_at hi hs hv))))
      exact Dat.sub s k
    · have hs' : (wipeT τ0 vs)[i]? = some (some sv) := by
        have : ∀ (vs : List Nat), i ∉ vs → (wipeT τ0 vs)[i]? = τ0[i]? := by
          intro vs
          induction vs with
          | nil => intro _; rfl
          | cons v vs ih =>
            intro h
            unfold wipeT
            rw [List.getElem?_set_ne fun z => h (by rw [z]; exact List.mem_cons_self)]
            exact ih fun z => h (List.mem_cons_of_mem _ z)
        rw [this vs hi]
        exact hs
      obtain ⟨v, hv, k⟩ := q.slot i sv hs'
      rw [wipe_out (α := Nat) hi] at hv
      refine ⟨v, hv, k.sub s fun a ha => List.mem_filter.mpr ⟨ha, decide_eq_true fun z => ?_⟩⟩
      have z : a = D := z
      subst z
      have := nd_inj q.nd ha hO
      have h1 := (List.getElem?_eq_some_iff.mp hs').1
      have := q.few
      omega
  · have k := q.gh g (List.mem_cons_of_mem _ (List.mem_append_right _ (List.mem_append_right _ hg)))
    cases g with
    | d v x => exact Dat.sub s k
    | dl vs ds => exact DatL.sub s k
    | l a vs ds => exact ⟨k.1.sub s, DatL.sub s k.2⟩
    | t a vs ds => exact ⟨k.1.sub s, DatL.sub s k.2⟩
    | o j' a us ds =>
      refine ⟨k.1, List.mem_filter.mpr ⟨k.2.1, decide_eq_true fun z => ?_⟩, k.2.2.1, DatL.sub s k.2.2.2⟩
      have z : a = D := z
      subst z
      exact no _ _ _ hg
  · rcases List.mem_append.mp z with z | z
    · obtain ⟨p, hp, e⟩ := List.mem_map.mp z
      exact of_decide_eq_true (List.mem_filter.mp hp).2 e
    · exact (q.own _ hO).2.1 z
end
section
variable {K : PySem.W.Frag} {W : Wc} {X : Cx} {e : Expr} {wo wi : WA} {t : WT} {we : WE} {g : WG} {S : List Nat} {vs : List Nat}
theorem liftLc (hS : ∀ i ∈ S, i ∈ vs) {σ : L2.St} {H : Hp} {Q : VK} (h : liftO K W (wLc wi g t we vs) σ H Q) : tLc (liftI K W wi) (liftG K W S g) (liftT K W t) (liftE K W we) vs σ H Q := by
  obtain ⟨Γ, O, τ, n, Q', q, hw, k⟩ := h
  refine ⟨Γ, O, τ, n, _, q, hw, fun J H1 gs ds O1 τ1 n1 q1 ⟨G, Y, wk, hG, hY⟩ ⟨hno, I, hI0, hIs, hId⟩ => fun D hD => ?_⟩
  have sv := svG_ok (q1.rest) (vs := vs)
  have q2 : Rel K W (gs ++ (svG τ1 σ vs ++ Γ)) O1 [] τ1 n1 σ H1 := ⟨q1.len, q1.few, q1.slot, fun x hx => by
    rcases List.mem_append.mp hx with hx | hx
    · exact q1.gh x (List.mem_append_left _ hx)
    · rcases List.mem_append.mp hx with hx | hx
      · exact sv x hx
      · exact q1.gh x (List.mem_append_right _ hx), q1.nd, q1.own, q1.ext, q1.bag, q1.bag0, q1.tab, q1.al, q1.al0, q1.mdb⟩
  have noA : ∀ j us es, Gh.o j D us es ∉ gs ++ (svG τ1 σ vs ++ Γ) := fun j us es z => by
    have := (q2.gh _ z).2.2.1
    rw [hD] at this
    cases this
  have q3 := (q2.begin hD).wipe vs
  refine lc_it wk (fun i H => ∃ O n ws acc, Rel K W (.o 1000000 D ws acc :: (gs ++ (svG τ1 σ vs ++ Γ))) O [] (wipeT τ1 vs) n (wipe σ vs) H ∧ I i acc n) ⟨_, n1, [], [], q3, hI0⟩ (fun i H _ ⟨O, n, ws, acc, q, _⟩ => hG _ _ H fun x hx => q.gh x (List.mem_cons_of_mem _ (List.mem_append_left _ hx))) ?_ ?_
  · rintro i x H2 H3 hi ⟨O2, n2, ws, acc, q2, h2⟩ y
    obtain ⟨ex, d, hd, dd⟩ := hY _ _ H2 i x H3 (fun x hx => q2.gh x (List.mem_cons_of_mem _ (List.mem_append_left _ hx))) q2.al hi y
    refine ⟨_, O2, wipeT τ1 vs, n2, d, _, q2.ex ex, dd, hIs i d acc n2 hd h2, fun σ4 O4 τ4 sm4 q4 h4 => ⟨?_, ?_⟩⟩
    · rw [wipe_sm sm4 hS]
      refine wipe_sm (S := vs) ⟨wipe_len, fun i hi => wipe_out (α := Nat) hi⟩ fun _ h => h
    · have hw4 : wipe σ4 vs = wipe σ vs := by
        rw [wipe_sm sm4 hS]
        exact wipe_sm (S := vs) ⟨wipe_len, fun i hi => wipe_out (α := Nat) hi⟩ fun _ h => h
      have hwT : wipeT (wipeT τ1 vs) vs = wipeT τ1 vs := by
        apply List.ext_getElem?
        intro i
        by_cases hz : ∃ s, (wipeT (wipeT τ1 vs) vs)[i]? = some (some s)
        · obtain ⟨s, hs⟩ := hz
          rw [hs, (wipeT_in hs).1]
        · by_cases hz' : ∃ s, (wipeT τ1 vs)[i]? = some (some s)
          · exfalso
            obtain ⟨s, hs⟩ := hz'
            have hn := (wipeT_in hs).2
            have out : ∀ (us : List Nat) (τ : ST), i ∉ us → (wipeT τ us)[i]? = τ[i]? := by
              intro us τ
              induction us with
              | nil => intro _; rfl
              | cons v us ih =>
                intro h
                unfold wipeT
                rw [List.getElem?_set_ne fun z => h (by rw [z]; exact List.mem_cons_self)]
                exact ih fun z => h (List.mem_cons_of_mem _ z)
            exact hz ⟨s, by rw [out vs _ hn]; exact hs⟩
          · have f : ∀ (l : ST), (¬ ∃ s, l[i]? = some (some s)) → l[i]? = if i < l.length then some none else none := by
              intro l hl
              by_cases hi : i < l.length
              · rw [if_pos hi, List.getElem?_eq_getElem hi]
                cases e : l[i] with
                | none => rfl
                | some s => exact absurd ⟨s, by rw [List.getElem?_eq_getElem hi, e]⟩ hl
              · rw [if_neg hi, List.getElem?_eq_none (by omega)]
            rw [f _ hz, f _ hz', wipeT_len]
      refine ⟨_, O4, τ4, n2, _, q4, h4, fun b H5 O5 τ5 n5 q5 ⟨e5, h5⟩ => ?_⟩
      have back : ∀ {Γ' : List Gh} {O' : Om} {τ' : ST} {n' : Int} {H' : Hp}, Rel K W Γ' O' [] τ' n' σ4 H' → wipeT τ' vs = wipeT τ1 vs → Rel K W Γ' O' [] (wipeT τ1 vs) n' (wipe σ vs) H' := fun r e => by
        have := r.wipe vs
        rw [e, hw4] at this
        exact this
      cases b with
      | false => exact ⟨O5, n5, ws, acc, back q5 e5, h5⟩
      | true =>
        refine ⟨_, O5, τ5, n5, _, q5, h5, fun y H6 dy O6 τ6 n6 q6 d6 ⟨e6, hl6, h6⟩ => ?_⟩
        obtain ⟨_, hO, hD6, hl⟩ := q6.gh _ List.mem_cons_self
        exact ⟨ws, hD6, BF.sz_lt (by rw [hl.length]; exact hl6), O6, n6, ws ++ [y], acc ++ [dy], (back q6 e6).grow noA d6, h6⟩
  · rintro H2 ⟨O2, n2, ws, acc, q2, h2⟩
    obtain ⟨O', r, h3, h4, h5, h6⟩ := q2.finish (fun j us es z => noA j us es (List.mem_append_right _ (List.mem_append_right _ z))) hno q1.len fun i _ s hs => by
      obtain ⟨v, hv, _⟩ := q1.slot i s hs
      exact ⟨v, hv⟩
    exact k D ws H2 acc O' τ1 n2 r h3 h4 h5 h6 (hId _ _ h2)
theorem liftOL {σ : L2.St} {H : Hp} {Q : VK} (h : liftE K W (wOL wo) σ H Q) : liftO K W wo σ H Q := by
  obtain ⟨Γ, O, τ, n, Q', q, hw, k⟩ := h
  refine ⟨Γ, O, τ, n, _, q, hw, fun a vs H1 ds O1 τ1 n1 q1 h1 h2 h3 h4 hq => ?_⟩
  have s : ∀ y ∈ ad O1 ++ W.M0, y ∈ [a] ++ ad O1 ++ W.M0 := fun y hy => List.mem_cons_of_mem _ hy
  exact k _ H1 _ O1 τ1 n1 ⟨q1.len, q1.few, fun i s' hs => by
    obtain ⟨v, hv, z⟩ := q1.slot i s' hs
    exact ⟨v, hv, z.sub s fun _ h => h⟩, fun g hg => (q1.gh g hg).sub s fun _ _ _ h => h, q1.nd, q1.own, q1.ext, q1.bag, q1.bag0, q1.tab, q1.al, q1.al0, q1.mdb⟩ (.lst (LsM.of h1 h2) (DatL.sub s h4)) hq
/-- a new list, as data -/
theorem ve_ofO (h : PE X e (liftO K W wo)) : PE X e (liftE K W (wOL wo)) := BF.PE.imp h fun _ _ _ q => liftOL q
theorem PTs.imp {es : List Expr} {t t' : L2.TT} (h : PTs X es t) (i : ∀ σ H Q, t' σ H Q → t σ H Q) : PTs X es t' := ⟨fun pins s σ H Q I q => h.run pins s σ H Q I (i σ H Q q)⟩
theorem vts_nil : PTs X [] (liftT K W wYes) := PTs.imp pts_nil fun σ H Q ⟨Γ, O, τ, n, Q', q, hw, k⟩ => k true H O τ n q hw
theorem vts_one {c : Expr} (h : PT X c (liftT K W t)) : PTs X [c] (liftT K W t) := pts_one h
theorem vo_lc (h : PE X e (tLc (liftI K W wi) (liftG K W S g) (liftT K W t) (liftE K W we) vs)) (hS : ∀ i ∈ S, i ∈ vs := by decide) : PE X e (liftO K W (wLc wi g t we vs)) := BF.PE.imp h fun _ _ _ q => liftLc hS q
theorem vs_setLcO {st : Stmt} {i : Nat} (h : PS X st (tAsg (tLc (liftI K W wi) (liftG K W S g) (liftT K W t) (liftE K W we) vs) (gName i))) (hS : ∀ i ∈ S, i ∈ vs := by decide) (i6 : i < 1000000 := by decide) : PS X st (liftS K W (wSetO i (wLc wi g t we vs))) :=
  vs_setO (BF.PS.imp' h fun D σ H q => liftLc hS q) i6
theorem vs_setLc {st : Stmt} {i : Nat} (h : PS X st (tAsg (tLc (liftI K W wi) (liftG K W S g) (liftT K W t) (liftE K W we) vs) (gName i))) (hS : ∀ i ∈ S, i ∈ vs := by decide) (i6 : i < 1000000 := by decide) : PS X st (liftS K W (wSet i (wOL (wLc wi g t we vs)))) :=
  vs_set (BF.PS.imp' h fun D σ H q => liftLc hS (liftOL q)) i6
/-! what a loop walks -/
theorem vi_list (hK : X.K = K) {tg l : Expr} (h : PE X l (liftE K W we)) : PI X tg l (liftI K W (fun τ n Q => we τ n fun d τ1 n1 => ∃ ds, d = .lst ds ∧ Q ds τ1 n1)) := by
  subst hK
  refine PI.imp (pi_list h) fun σ H R ⟨Γ, O, τ, n, Q', q, hw, k⟩ => ?_
  refine ⟨Γ, O, τ, n, _, q, hw, fun v H1 d O1 τ1 n1 q1 d1 ⟨ds, ed, hq⟩ => ?_⟩
  subst ed
  cases d1 with
  | @lst a vs _ h1 h2 =>
    refine ⟨a, rfl, ⟨vs, SqL.of h1.1⟩, k _ H1 [.l a vs ds] ds O1 τ1 n1 (q1.gcons ⟨h1, h2⟩) ⟨_, _, by rw [← h2.length]; exact walk_list, fun O M H g => SqL.of (g _ List.mem_cons_self).1.1, fun O M H i x H' g _ hi y => ?_⟩ hq⟩
    obtain ⟨rfl, y2⟩ := y
    exact ⟨BF.Ex.refl _, (g _ List.mem_cons_self).2.get y2⟩
theorem vi_tup (hK : X.K = K) {tg l : Expr} (h : PE X l (liftE K W we)) : PI X tg l (liftI K W (fun τ n Q => we τ n fun d τ1 n1 => ∃ ds, d = .tup ds ∧ Q ds τ1 n1)) := by
  subst hK
  refine PI.imp (pi_tup h) fun σ H R ⟨Γ, O, τ, n, Q', q, hw, k⟩ => ?_
  refine ⟨Γ, O, τ, n, _, q, hw, fun v H1 d O1 τ1 n1 q1 d1 ⟨ds, ed, hq⟩ => ?_⟩
  subst ed
  cases d1 with
  | @tup a vs _ h1 h2 =>
    refine ⟨a, rfl, ⟨vs, h1.1⟩, k _ H1 [.t a vs ds] ds O1 τ1 n1 (q1.gcons ⟨h1, h2⟩) ⟨_, _, by rw [← h2.length]; exact walk_tup, fun O M H g => (g _ List.mem_cons_self).1.1, fun O M H i x H' g _ hi y => ?_⟩ hq⟩
    obtain ⟨rfl, y2⟩ := y
    exact ⟨BF.Ex.refl _, (g _ List.mem_cons_self).2.get y2⟩
def rngD (lo : Int) (k : Nat) : List DV := (List.range k).map fun (i : Nat) => DV.int (lo + (i : Int))
theorem rngD_len {lo : Int} {k : Nat} : (rngD lo k).length = k := by simp [rngD]
theorem rng_wkd {b : Addr} {lo : Int} {k : Nat} : Wkd K b (Itr lo k) [] (rngD lo k) := ⟨_, _, by rw [rngD_len]; exact walk_range, fun _ _ _ _ => trivial, fun O M H i x H' _ _ hi y => by
  obtain ⟨rfl, rfl⟩ := y
  rw [rngD_len] at hi
  exact ⟨BF.Ex.refl _, _, by simp [rngD, hi], .int _⟩⟩
def wRng1 (wr : WA) : WA := fun τ n Q => wr τ n fun ds τ1 n1 => ∃ j, ds = [.int j] ∧ -1000000000000 ≤ j ∧ j ≤ 1000000000000 ∧ Q (rngD 0 j.toNat) τ1 n1
def wRng2 (wr : WA) : WA := fun τ n Q => wr τ n fun ds τ1 n1 => ∃ i j, ds = [.int i, .int j] ∧ -1000000000000 ≤ i ∧ i ≤ 1000000000000 ∧ -1000000000000 ≤ j ∧ j ≤ 1000000000000 ∧ Q (rngD i (j - i).toNat) τ1 n1
variable {wr : WA} {es : List Expr} {tg : Expr}
theorem vi_rng1 (h : PI X tg e (iRng1 (liftA K W wr))) : PI X tg e (liftI K W (wRng1 wr)) := PI.imp h fun σ H R ⟨Γ, O, τ, n, Q', q, hw, k⟩ => ⟨Γ, O, τ, n, _, q, hw, fun vs H1 ds O1 τ1 n1 q1 d1 ⟨j, ed, l1, l2, hq⟩ => by
  subst ed
  cases d1 with
  | cons h1 h2 =>
    cases h1
    cases h2
    exact ⟨j, rfl, by omega, by omega, k _ H1 [] _ O1 τ1 n1 q1 rng_wkd hq⟩⟩
theorem vi_rng2 (h : PI X tg e (iRng2 (liftA K W wr))) : PI X tg e (liftI K W (wRng2 wr)) := PI.imp h fun σ H R ⟨Γ, O, τ, n, Q', q, hw, k⟩ => ⟨Γ, O, τ, n, _, q, hw, fun vs H1 ds O1 τ1 n1 q1 d1 ⟨i, j, ed, l1, l2, l3, l4, hq⟩ => by
  subst ed
  cases d1 with
  | cons h1 h2 =>
    cases h1
    cases h2 with
    | cons h1 h2 =>
      cases h1
      cases h2
      exact ⟨i, j, rfl, ⟨by omega, by omega, by omega, by omega⟩, k _ H1 [] _ O1 τ1 n1 q1 rng_wkd hq⟩⟩
/-- pairs -/
def zipD (xs ys : List DV) : List DV := List.zipWith (fun x y => .tup [x, y]) xs ys
theorem zipD_len {xs ys : List DV} : (zipD xs ys).length = min xs.length ys.length := by simp [zipD]
theorem pair_dat {b : Addr} {M : List Addr} {H H' : Hp} {T : Addr} {x y : V} {d e : DV} (ha : AlN M H) (hT : H T = none) (hH : H' = upd H T (.tup [x, y])) (hx : Dat K b M H x d) (hy : Dat K b M H y e) : BF.Ex [] H H' ∧ Dat K b M H' (.ref T) (.tup [d, e]) := by
  subst hH
  have ex : BF.Ex [] H (upd H T (.tup [x, y])) := BF.Ex.new hT
  exact ⟨ex, .tup (TsM.of upd_same (ha.out hT)) (.cons (Dat.ey (Ey.ex0 ex) hx) (.cons (Dat.ey (Ey.ex0 ex) hy) .nil))⟩
def wZip (wr : WA) : WA := fun τ n Q => wr τ n fun ds τ1 n1 => ∃ xs ys, (ds = [.lst xs, .lst ys] ∨ ds = [.tup xs, .tup ys]) ∧ Q (zipD xs ys) τ1 n1
theorem vi_zip (h : PI X tg e (RZ.iZipA K (liftA K W wr))) : PI X tg e (liftI K W (wZip wr)) := PI.imp h fun σ H R ⟨Γ, O, τ, n, Q', q, hw, k⟩ => ⟨Γ, O, τ, n, _, q, hw, fun vs H1 ds O1 τ1 n1 q1 d1 ⟨xs, ys, ed, hq⟩ => by
  rcases ed with ed | ed
  · subst ed
    cases d1 with
    | cons h1 h2 =>
      cases h2 with
      | cons h2 h3 =>
        cases h3
        cases h1 with
        | @lst a us _ a1 a2 =>
          cases h2 with
          | @lst c ws _ b1 b2 =>
            refine ⟨a, c, us, ws, rfl, .inl ⟨SqL.of a1.1, SqL.of b1.1, k _ H1 [.l a us xs, .l c ws ys] _ O1 τ1 n1 ((q1.gcons (g := .l c ws ys) ⟨b1, b2⟩).gcons ⟨a1, a2⟩) ⟨_, _, walk_zip (by rw [zipD_len, a2.length, b2.length]), fun O M H g => ⟨SqL.of (g (.l a us xs) (by simp)).1.1, SqL.of (g (.l c ws ys) (by simp)).1.1⟩, fun O M H i x H' g al hi y => ?_⟩ hq⟩⟩
            obtain ⟨T, x, z, rfl, y2, y3, y4, y5⟩ := y
            obtain ⟨d, e1, e2⟩ := (g (.l a us xs) (by simp)).2.get y4
            obtain ⟨f, f1, f2⟩ := (g (.l c ws ys) (by simp)).2.get y5
            obtain ⟨p1, p2⟩ := pair_dat al y2 y3 e2 f2
            exact ⟨p1, _, by simp [zipD, List.getElem?_zipWith, e1, f1], p2⟩
  · subst ed
    cases d1 with
    | cons h1 h2 =>
      cases h2 with
      | cons h2 h3 =>
        cases h3
        cases h1 with
        | @tup a us _ a1 a2 =>
          cases h2 with
          | @tup c ws _ b1 b2 =>
            refine ⟨a, c, us, ws, rfl, .inr ⟨a1.1, b1.1, k _ H1 [.t a us xs, .t c ws ys] _ O1 τ1 n1 ((q1.gcons (g := .t c ws ys) ⟨b1, b2⟩).gcons ⟨a1, a2⟩) ⟨_, _, BF.walk_zipT (by rw [zipD_len, a2.length, b2.length]), fun O M H g => ⟨(g (.t a us xs) (by simp)).1.1, (g (.t c ws ys) (by simp)).1.1⟩, fun O M H i x H' g al hi y => ?_⟩ hq⟩⟩
            obtain ⟨T, x, z, rfl, y2, y3, y4, y5⟩ := y
            obtain ⟨d, e1, e2⟩ := (g (.t a us xs) (by simp)).2.get y4
            obtain ⟨f, f1, f2⟩ := (g (.t c ws ys) (by simp)).2.get y5
            obtain ⟨p1, p2⟩ := pair_dat al y2 y3 e2 f2
            exact ⟨p1, _, by simp [zipD, List.getElem?_zipWith, e1, f1], p2⟩⟩
/-! a def by its body -/
def startT (N : List Str) (ds : List DV) : ST := ds.map (fun d => some (.d d)) ++ List.replicate (N.length - ds.length) none
theorem start_rel {C : Cf} {M : List Addr} {H : Hp} {n : Int} {vs : List V} {ds : List DV} {N : List Str} (hN : N.length < 1000000) (hl : vs.length ≤ N.length) (hb : C.b ∈ M) (al : AlN M H) (bag : C.B H n) (tab : LamX.Tabs C.T H) (hd : DatL K C.b M H vs ds) (E' : XV) (E : XK) :
    Rel K ⟨C, [C.b], M, H, hb, List.mem_singleton.mpr rfl, E', E⟩ [] [] [] (startT N ds) n (L2.start N vs) H := by
  have e := hd.length
  refine ⟨by simp [startT, L2.start, e], by simp [startT]; omega, fun i s hs => ?_, nofun, List.nodup_nil, nofun, Ey.refl H, bag, ⟨n, bag⟩, tab, al, al, fun x hx => .inl (List.mem_singleton.mp hx)⟩
  unfold startT at hs
  by_cases hi : i < ds.length
  · rw [List.getElem?_append_left (by simpa using hi), List.getElem?_map] at hs
    obtain ⟨d, hd', e'⟩ := Option.map_eq_some_iff.mp hs
    cases e'
    obtain ⟨v, hv, k⟩ := hd.at hd'
    refine ⟨v, ?_, k⟩
    unfold L2.start
    rw [List.getElem?_append_left (by simpa [e] using hi), List.getElem?_map, hv]
    rfl
  · rw [List.getElem?_append_right (by simpa using hi), List.getElem?_replicate] at hs
    split at hs <;> cases hs
/-- THE RULE: a def's promise by data, from its body's reading -/
theorem v_body {Cs : Cf → Prop} {sp : DSp} {N ps : List Str} {vs : List V} {H : Hp} {Q : VK} {E : XK} (hN : N.length < 1000000) (hp : ps.length ≤ N.length) (hlen : ∀ ds n Q E, sp ds n Q E → ds.length = ps.length) (h : liftSp K Cs sp vs H Q E) :
    ∃ (W : Wc) (ds : List DV) (n : Int) (Q' : DV → Int → Prop), Cs W.toCf ∧ W.E = E ∧ ELink K W ∧ sp ds n Q' W.E' ∧ vs.length = ps.length ∧
      ∀ w : WS, w { nx := fun _ n => Q' .non n, rt := Q' } (startT N ds) n → liftS K W w { nx := fun _ H' => Q .non H', rt := Q } (L2.start N vs) H := by
  obtain ⟨C, M, n, ds, Q', E', hC, hb, al, bag, tab, hd, hsp, hQ, hE⟩ := h
  have hl := hlen _ _ _ _ hsp
  have hv : vs.length = ps.length := by rw [hd.length]; exact hl
  refine ⟨⟨C, [C.b], M, H, hb, List.mem_singleton.mpr rfl, E', E⟩, ds, n, Q', hC, rfl, fun c ns ws es dd H' n' ey al' bag' tab' h1 h2 h3 h4 => hE c ns ws es dd H' n' ⟨ey, al', bag', tab'⟩ h1 h2 h3 h4, hsp, hv, fun w hw => ?_⟩
  refine ⟨[], [], _, n, _, start_rel hN (by omega) hb al bag tab hd E' E, hw, ?_, ?_, ?_, ?_⟩
  · intro σ' H' τ' n' O' q hq
    exact hQ .non H' .non n' ⟨q.ext, fun x hx => q.al x (List.mem_append_right _ hx), q.bag, q.tab⟩ .non hq
  · intro _ _ _ _ _ _ h
    exact h.elim
  · intro _ _ _ _ _ _ h
    exact h.elim
  · intro v H' d n' r hq
    exact hQ v H' d n' ⟨r.ey, r.al, r.bag, r.tab⟩ r.dat hq
theorem v_ok {P : Program} {w : World} {mg : Str → Option Value} {base : Heap} {Cs : Cf → Prop} {sp : DSp} {x qual : Str} {params : Arguments} {body : List Stmt} {scope : Scope} {dvs : List V} {kws : List (Str × V)} {f : Addr} {fd : FuncData} {N ps : List Str} {k : Nat}
    (F : FunD K x qual params body scope dvs kws f fd) (S : FnScope N ps scope) (hN : N.length < 1000000) (hp : ps.length ≤ N.length) (hlen : ∀ ds n Q E, sp ds n Q E → ds.length = ps.length)
    (hbody : ∀ (cdv : Value) (A : Around) (outer : List Env) (s : Shared) (H : Hp) (W : Wc) (ds : List DV) (n : Int) (Q' : DV → Int → Prop), Cs W.toCf → ELink K W → Room k (A.deeper (envOfC qual scope s.heap.objs.size f cdv)) → sp ds n Q' W.E' →
      ∃ wd, PSs (cxOf (L2.CX P w) P w K mg base N qual scope f cdv A outer s H W.E) body (liftS K W wd) ∧ wd { nx := fun _ n => Q' .non n, rt := Q' } (startT N ds) n) : FnOk P w K mg base (L2.CX P w) (k + 1) f fd ps (liftSp K Cs sp) := by
  refine F.ok S (fun vs H Q E h => ?_) (fun cdv A outer s H vs Q E hr h => ?_)
  · obtain ⟨W, ds, n, Q', hC, hWE, hE, hsp, hl, fin⟩ := v_body hN hp hlen h
    exact hl
  · obtain ⟨W, ds, n, Q', hC, hWE, hE, hsp, hl, fin⟩ := v_body hN hp hlen h
    subst hWE
    obtain ⟨wd, h1, h2⟩ := hbody cdv A outer s H W ds n Q' hC hE hr hsp
    exact ⟨_, h1, fin wd h2⟩
end
end VF
/-! ## Operations on data -/
namespace VF
open PySem PySem.Spec PyProof.Rows L2
abbrev DP := DV → Prop
def wI (C : Int → Int → Prop) (g : Int → Int → Int) : DV → DV → DP → Prop
  | .int i, .int j, Q => C i j ∧ Q (.int (g i j))
  | _, _, _ => False
def wI0 (g : Int → Int → Int) : DV → DV → DP → Prop
  | .int i, .int j, Q => Q (.int (g i j))
  | _, _, _ => False
def wIB (g : Int → Int → Bool) : DV → DV → DP → Prop
  | .int i, .int j, Q => Q (.bl (g i j))
  | _, _, _ => False
abbrev wSub := wI0 fun i j => i - j
abbrev wMul := wI CMulW fun i j => i * j
abbrev wMod := wI (fun _ j => 0 < j) fun i j => i % j
abbrev wDiv := wI CDivW fun i j => i / j
abbrev wPow := wI CPow fun i j => i ^ j.toNat
abbrev wLt := wIB fun i j => decide (i < j)
abbrev wLe := wIB fun i j => decide (i ≤ j)
abbrev wGt := wIB fun i j => decide (j < i)
abbrev wGe := wIB fun i j => decide (j ≤ i)
def wAdd : DV → DV → DP → Prop
  | .int i, .int j, Q => Q (.int (i + j))
  | .lst xs, .lst ys, Q => xs.length + ys.length ≤ 1000000 ∧ Q (.lst (xs ++ ys))
  | .tup xs, .tup ys, Q => xs.length + ys.length ≤ 1000000 ∧ Q (.tup (xs ++ ys))
  | .str x, .str y, Q => x.length + y.length ≤ 1000000 ∧ Q (.str (x ++ y))
  | _, _, _ => False
def wNeg : DV → DP → Prop
  | .int i, Q => Q (.int (-i))
  | _, _ => False
/-- list or tuple at an index -/
def wIx : DV → DV → DP → Prop
  | .lst xs, .int i, Q => ∃ x, atI xs i = some x ∧ Q x
  | .tup xs, .int i, Q => ∃ x, atI xs i = some x ∧ Q x
  | _, _, _ => False
def cutD (xs : List DV) (lo hi : Option Int) : List DV := (xs.drop (HT.sIx xs.length 0 lo)).take (HT.sIx xs.length xs.length hi - HT.sIx xs.length 0 lo)
def wSlice : DV → Option Int → Option Int → DP → Prop
  | .lst xs, l, u, Q => Q (.lst (cutD xs l u))
  | .tup xs, l, u, Q => Q (.tup (cutD xs l u))
  | _, _, _, _ => False
def wLen : List DV → DP → Prop
  | [.lst xs], Q => Q (.int (xs.length : Int))
  | [.tup xs], Q => Q (.int (xs.length : Int))
  | [.str x], Q => x.length ≤ 1000000 ∧ Q (.int (x.length : Int))
  | _, _ => False
def wList : List DV → DP → Prop
  | [.lst xs], Q => Q (.lst xs)
  | [.tup xs], Q => Q (.lst xs)
  | _, _ => False
def wTuple : List DV → DP → Prop
  | [.lst xs], Q => Q (.tup xs)
  | [.tup xs], Q => Q (.tup xs)
  | _, _ => False
def wInt : List DV → DP → Prop
  | [.int i], Q => Q (.int i)
  | [.bl b], Q => Q (.int (if b then 1 else 0))
  | _, _ => False
def wAbs : List DV → DP → Prop
  | [.int i], Q => Q (.int (i.natAbs : Int))
  | _, _ => False
def wMax2 : List DV → DP → Prop
  | [.int i, .int j], Q => Q (.int (max i j))
  | _, _ => False
def wMin2 : List DV → DP → Prop
  | [.int i, .int j], Q => Q (.int (min i j))
  | _, _ => False
/-- lists of bools -/
def asBl : List DV → Option (List Bool)
  | [] => some []
  | .bl b :: r => (asBl r).map (b :: ·)
  | _ :: _ => none
def wAll : List DV → DP → Prop
  | [.lst xs], Q => ∃ bs, asBl xs = some bs ∧ Q (.bl (bs.all id))
  | _, _ => False
def wAny : List DV → DP → Prop
  | [.lst xs], Q => ∃ bs, asBl xs = some bs ∧ Q (.bl (bs.any id))
  | _, _ => False
mutual
def toPy : DV → Option PyData
  | .non => some .none
  | .bl b => some (.bool b)
  | .int i => some (.int i)
  | .str x => some (.str x)
  | .lst ds => (toPyL ds).map .list
  | .tup ds => (toPyL ds).map .tuple
  | _ => none
def toPyL : List DV → Option (List PyData)
  | [] => some []
  | d :: ds => match toPy d, toPyL ds with
    | some x, some xs => some (x :: xs)
    | _, _ => none
end
/-- a scalar -/
def DV.sc : DV → Option V
  | .non => some .non
  | .bl b => some (.bl b)
  | .int i => some (.int i)
  | .str x => some (.str x)
  | _ => none
def wEqS (neg : Bool) : DV → DV → DP → Prop
  | .int i, .int j, Q => Q (.bl (if neg then !decide (i = j) else decide (i = j)))
  | .str i, .str j, Q => Q (.bl (if neg then !decide (i = j) else decide (i = j)))
  | .bl i, .bl j, Q => Q (.bl (if neg then !(i == j) else (i == j)))
  | _, _, _ => False
def wEqD (neg : Bool) : DV → DV → DP → Prop := fun d e Q => ∃ x y, toPy d = some x ∧ toPy e = some y ∧ SeqAt.shaped x = true ∧ SeqAt.shaped y = true ∧ Q (.bl (if neg then !PyData.eqv x y else PyData.eqv x y))
/-- of ints, texts, bools; else through and through -/
def wEq (neg : Bool) : DV → DV → DP → Prop := fun d e Q => wEqS neg d e Q ∨ wEqD neg d e Q
def wIsN (neg : Bool) : DV → DV → DP → Prop
  | .non, .non, Q => Q (.bl (!neg))
  | .bl _, .non, Q => Q (.bl neg)
  | .int _, .non, Q => Q (.bl neg)
  | .str _, .non, Q => Q (.bl neg)
  | .lst _, .non, Q => Q (.bl neg)
  | .tup _, .non, Q => Q (.bl neg)
  | .ins _ _ _, .non, Q => Q (.bl neg)
  | .exc _ _ _, .non, Q => Q (.bl neg)
  | _, _, _ => False
def rAddD (K : PySem.W.Frag) : R2 := fun x y H Q => rI0 (fun i j => .int (i + j)) x y H Q ∨ rCat x y H Q ∨ rCatA K x y H Q ∨ ∃ i j, x = .str i ∧ y = .str j ∧ i.length + j.length ≤ sizeLine ∧ Q (.str (i ++ j)) H
section
variable {X : Cx}
theorem op_addD (K : PySem.W.Frag) (h : X.K = K := by rfl) : OpR X (binaryOp .Add) (rAddD K) := h ▸ op_add.or (op_cat.or (op_catA.or op_add_str))
theorem op_eqU (K : PySem.W.Frag) (hu : X.A.units + 64 < cLine) (h : X.K = K := by rfl) : OpR X (compareOp .Eq) (fun x y H Q => rEq x y H Q ∨ rEqD K x y H Q) := h ▸ op_eq.or (op_eqD hu)
theorem op_neU (K : PySem.W.Frag) (hu : X.A.units + 64 < cLine) (h : X.K = K := by rfl) : OpR X (compareOp .NotEq) (fun x y H Q => rNe x y H Q ∨ rNeD K x y H Q) := h ▸ op_ne.or (op_neD hu)
def rSlU (K : PySem.W.Frag) : V → Option Int → Option Int → Hp → VK → Prop := fun x l u H Q => rSlL K x l u H Q ∨ rSlA K x l u H Q
theorem sl_U (K : PySem.W.Frag) (h : X.K = K := by rfl) : SlR X (rSlU K) := h ▸ sl_list.or sl_tupA
theorem call_lenK (K : PySem.W.Frag) (h : X.K = K := by rfl) : CallR X (.builtin "len") (fun xs H Q => ∃ x n, xs = [x] ∧ LenV K x H n ∧ Q (.int n) H) := h ▸ call_len
end
section
variable {K : PySem.W.Frag}
theorem d_I {C : Int → Int → Prop} {g : Int → Int → Int} : DOp K (rI C fun i j => .int (g i j)) (wI C g) := fun b M H x y d e Q' Q al hx hy hw k => by
  cases hx <;> cases hy <;> first | exact hw.elim | exact ⟨_, _, rfl, rfl, hw.1, k _ _ _ (BF.Ex.refl H) (.int _) hw.2⟩
theorem d_I0 {g : Int → Int → Int} : DOp K (rI0 fun i j => .int (g i j)) (wI0 g) := fun b M H x y d e Q' Q al hx hy hw k => by
  cases hx <;> cases hy <;> first | exact hw.elim | exact ⟨_, _, rfl, rfl, k _ _ _ (BF.Ex.refl H) (.int _) hw⟩
theorem d_IB {g : Int → Int → Bool} : DOp K (rI0 fun i j => .bl (g i j)) (wIB g) := fun b M H x y d e Q' Q al hx hy hw k => by
  cases hx <;> cases hy <;> first | exact hw.elim | exact ⟨_, _, rfl, rfl, k _ _ _ (BF.Ex.refl H) (.bl _) hw⟩
theorem d_neg : DUn K (rU fun i => .int (-i)) wNeg := fun b M H x d Q' Q al hx hw k => by
  cases hx <;> first | exact hw.elim | exact ⟨_, rfl, k _ _ _ (BF.Ex.refl H) (.int _) hw⟩
theorem new_lst {b p : Addr} {M : List Addr} {H : Hp} {vs : List V} {ds : List DV} (al : AlN M H) (hp : H p = none) (h : DatL K b M H vs ds) : BF.Ex [] H (upd H p (.lst vs)) ∧ Dat K b M (upd H p (.lst vs)) (.ref p) (.lst ds) := by
  have e : BF.Ex [] H (upd H p (.lst vs)) := BF.Ex.new hp
  exact ⟨e, .lst (LsM.of upd_same (al.out hp)) (DatL.ey (Ey.ex0 e) h)⟩
theorem new_tup {b p : Addr} {M : List Addr} {H : Hp} {vs : List V} {ds : List DV} (al : AlN M H) (hp : H p = none) (h : DatL K b M H vs ds) : BF.Ex [] H (upd H p (.tup vs)) ∧ Dat K b M (upd H p (.tup vs)) (.ref p) (.tup ds) := by
  have e : BF.Ex [] H (upd H p (.tup vs)) := BF.Ex.new hp
  exact ⟨e, .tup (TsM.of upd_same (al.out hp)) (DatL.ey (Ey.ex0 e) h)⟩
theorem d_add : DOp K (rAddD K) wAdd := fun b M H x y d e Q' Q al hx hy hw k => by
  cases hx with
  | int i => cases hy <;> first | exact hw.elim | exact .inl ⟨_, _, rfl, rfl, k _ _ _ (BF.Ex.refl H) (.int _) hw⟩
  | str i => cases hy <;> first | exact hw.elim | exact .inr (.inr (.inr ⟨_, _, rfl, rfl, BF.sz_of hw.1, k _ _ _ (BF.Ex.refl H) (.str _) hw.2⟩))
  | lst h1 h2 =>
    cases hy with
    | lst k1 k2 => exact .inr (.inl ⟨_, _, _, _, rfl, rfl, h1.1, k1.1, by rw [h2.length, k2.length]; exact BF.sz_of hw.1, fun p hp => k _ _ _ (new_lst al hp (DatL.app h2 k2)).1 (new_lst al hp (DatL.app h2 k2)).2 hw.2⟩)
    | _ => exact hw.elim
  | tup h1 h2 =>
    cases hy with
    | tup k1 k2 =>
      refine .inr (.inr (.inl ⟨_, _, _, _, rfl, rfl, h1.1, k1.1, by rw [h2.length, k2.length]; exact BF.sz_of hw.1, fun z => ?_, fun _ z => ?_, fun _ _ p hp => k _ _ _ (new_tup al hp (DatL.app h2 k2)).1 (new_tup al hp (DatL.app h2 k2)).2 hw.2⟩))
      · subst z
        cases h2
        exact k _ _ _ (BF.Ex.refl H) (.tup k1 k2) hw.2
      · subst z
        cases k2
        have := hw.2
        rw [List.append_nil] at this
        exact k _ _ _ (BF.Ex.refl H) (.tup h1 h2) this
    | _ => exact hw.elim
  | _ => exact hw.elim
theorem atI_dat {b : Addr} {M : List Addr} {H : Hp} {vs : List V} {ds : List DV} {i : Int} {d : DV} (h : DatL K b M H vs ds) (e : atI ds i = some d) : ∃ v, atI vs i = some v ∧ Dat K b M H v d := by
  unfold atI at e ⊢
  rw [h.length]
  cases q : ixN ds.length i with
  | none => rw [q] at e; cases e
  | some j =>
    rw [q] at e
    exact h.at e
theorem d_ix : DOp K (BF.rIxLT K) wIx := fun b M H x y d e Q' Q al hx hy hw k => by
  cases hx with
  | lst h1 h2 =>
    cases hy <;> first | exact hw.elim | (obtain ⟨z, hz, q⟩ := hw; obtain ⟨v, hv, dv⟩ := atI_dat h2 hz; exact .inl ⟨_, _, _, v, rfl, rfl, SqL.of h1.1, hv, k _ _ _ (BF.Ex.refl H) dv q⟩)
  | tup h1 h2 =>
    cases hy <;> first | exact hw.elim | (obtain ⟨z, hz, q⟩ := hw; obtain ⟨v, hv, dv⟩ := atI_dat h2 hz; exact .inr ⟨_, _, _, v, rfl, rfl, h1.1, hv, k _ _ _ (BF.Ex.refl H) dv q⟩)
  | _ => exact hw.elim
theorem cut_dat {b : Addr} {M : List Addr} {H : Hp} {vs : List V} {ds : List DV} {l u : Option Int} (h : DatL K b M H vs ds) : DatL K b M H (cutV vs l u) (cutD ds l u) := by
  unfold cutV cutD
  rw [h.length]
  exact DatL.take _ (DatL.drop _ h)
theorem d_sl : DSl K (rSlU K) wSlice := fun b M H x d l u Q' Q al hx hw k => by
  cases hx with
  | lst h1 h2 => exact .inl ⟨_, _, rfl, SqL.of h1.1, fun p hp => k _ _ _ (new_lst al hp (cut_dat h2)).1 (new_lst al hp (cut_dat h2)).2 hw⟩
  | @tup a vs ds h1 h2 =>
    refine .inr ⟨_, _, rfl, h1.1, fun z => ?_, fun _ p hp => k _ _ _ (new_tup al hp (cut_dat h2)).1 (new_tup al hp (cut_dat h2)).2 hw⟩
    have e : cutD ds l u = ds := by
      unfold cutD
      rw [h2.length] at z
      rw [z.1, z.2, List.drop_zero, Nat.sub_zero, List.take_length]
    have hw : Q' (.tup (cutD ds l u)) := hw
    rw [e] at hw
    exact k _ _ _ (BF.Ex.refl H) (.tup h1 h2) hw
  | _ => exact hw.elim
theorem d_len : DCall K (fun xs H Q => ∃ x n, xs = [x] ∧ LenV K x H n ∧ Q (.int n) H) wLen := fun b M H xs ds Q' Q al hx hw k => by
  cases hx with
  | nil => exact hw.elim
  | cons h t =>
    cases t with
    | cons _ _ => cases h <;> exact hw.elim
    | nil =>
      cases h with
      | lst h1 h2 => exact ⟨_, _, rfl, .inl ⟨_, SqL.of h1.1, h2.length.symm⟩, k _ _ _ (BF.Ex.refl H) (.int _) hw⟩
      | tup h1 h2 => exact ⟨_, _, rfl, .inr ⟨_, h1.1, h2.length.symm⟩, k _ _ _ (BF.Ex.refl H) (.int _) hw⟩
      | str x => exact ⟨_, _, rfl, ⟨BF.sz_of hw.1, rfl⟩, k _ _ _ (BF.Ex.refl H) (.int _) hw.2⟩
      | _ => exact hw.elim
theorem d_list : DCall K (BF.rListLT K) wList := fun b M H xs ds Q' Q al hx hw k => by
  cases hx with
  | nil => exact hw.elim
  | cons h t =>
    cases t with
    | cons _ _ => cases h <;> exact hw.elim
    | nil =>
      cases h with
      | lst h1 h2 => exact ⟨_, _, rfl, .inl (SqL.of h1.1), fun p hp => k _ _ _ (new_lst al hp h2).1 (new_lst al hp h2).2 hw⟩
      | tup h1 h2 => exact ⟨_, _, rfl, .inr h1.1, fun p hp => k _ _ _ (new_lst al hp h2).1 (new_lst al hp h2).2 hw⟩
      | _ => exact hw.elim
theorem d_tuple : DCall K (BF.rTupLT K) wTuple := fun b M H xs ds Q' Q al hx hw k => by
  cases hx with
  | nil => exact hw.elim
  | cons h t =>
    cases t with
    | cons _ _ => cases h <;> exact hw.elim
    | nil =>
      cases h with
      | lst h1 h2 => exact ⟨_, _, rfl, .inl ⟨SqL.of h1.1, fun p hp => k _ _ _ (new_tup al hp h2).1 (new_tup al hp h2).2 hw⟩⟩
      | tup h1 h2 => exact ⟨_, _, rfl, .inr ⟨h1.1, k _ _ _ (BF.Ex.refl H) (.tup h1 h2) hw⟩⟩
      | _ => exact hw.elim
theorem d_int : DCall K BF.rInt1 wInt := fun b M H xs ds Q' Q al hx hw k => by
  cases hx with
  | nil => exact hw.elim
  | cons h t =>
    cases t with
    | cons _ _ => cases h <;> exact hw.elim
    | nil => cases h <;> first | exact hw.elim | exact .inl ⟨_, rfl, k _ _ _ (BF.Ex.refl H) (.int _) hw⟩ | exact .inr ⟨_, rfl, k _ _ _ (BF.Ex.refl H) (.int _) hw⟩
theorem d_abs : DCall K BF.rAbs wAbs := fun b M H xs ds Q' Q al hx hw k => by
  cases hx with
  | nil => exact hw.elim
  | cons h t =>
    cases t with
    | cons _ _ => cases h <;> exact hw.elim
    | nil => cases h <;> first | exact hw.elim | exact BF.x_abs (k _ _ _ (BF.Ex.refl H) (.int _) hw)
theorem d_max2 : DCall K (fun xs H Q => ∃ i j, xs = [.int i, .int j] ∧ Q (.int (if j > i then j else i)) H) wMax2 := fun b M H xs ds Q' Q al hx hw k => by
  cases hx with
  | nil => exact hw.elim
  | cons h t =>
    cases t with
    | nil => cases h <;> exact hw.elim
    | cons h' t =>
      cases t with
      | cons _ _ => cases h <;> cases h' <;> exact hw.elim
      | nil =>
        cases h with
        | int i =>
          cases h' with
          | int j =>
            refine ⟨i, j, rfl, ?_⟩
            rw [show (if j > i then j else i) = max i j by split <;> omega]
            exact k _ _ _ (BF.Ex.refl H) (.int _) hw
          | _ => exact hw.elim
        | _ => cases h' <;> exact hw.elim
theorem d_min2 : DCall K (fun xs H Q => ∃ i j, xs = [.int i, .int j] ∧ Q (.int (if j < i then j else i)) H) wMin2 := fun b M H xs ds Q' Q al hx hw k => by
  cases hx with
  | nil => exact hw.elim
  | cons h t =>
    cases t with
    | nil => cases h <;> exact hw.elim
    | cons h' t =>
      cases t with
      | cons _ _ => cases h <;> cases h' <;> exact hw.elim
      | nil =>
        cases h with
        | int i =>
          cases h' with
          | int j =>
            refine ⟨i, j, rfl, ?_⟩
            rw [show (if j < i then j else i) = min i j by split <;> omega]
            exact k _ _ _ (BF.Ex.refl H) (.int _) hw
          | _ => exact hw.elim
        | _ => cases h' <;> exact hw.elim
theorem asBl_dat {b : Addr} {M : List Addr} {H : Hp} : ∀ {vs : List V} {ds : List DV} {bs : List Bool}, DatL K b M H vs ds → asBl ds = some bs → vs = bs.map V.bl
  | _, _, _, .nil, e => by cases e; rfl
  | _, _, _, .cons h l, e => by
    cases h <;> first
      | (cases e; done)
      | (simp only [asBl] at e
         obtain ⟨r, hr, e⟩ := Option.map_eq_some_iff.mp e
         subst e
         rw [asBl_dat l hr]
         rfl)
theorem d_all : DCall K (rAll K) wAll := fun b M H xs ds Q' Q al hx hw k => by
  cases hx with
  | nil => exact hw.elim
  | cons h t =>
    cases t with
    | cons _ _ => cases h <;> exact hw.elim
    | nil =>
      cases h with
      | lst h1 h2 =>
        obtain ⟨bs, e, q⟩ := hw
        refine ⟨_, bs, rfl, ?_, k _ _ _ (BF.Ex.refl H) (.bl _) q⟩
        rw [← asBl_dat h2 e]
        exact SqL.of h1.1
      | _ => exact hw.elim
theorem d_any : DCall K (rAny K) wAny := fun b M H xs ds Q' Q al hx hw k => by
  cases hx with
  | nil => exact hw.elim
  | cons h t =>
    cases t with
    | cons _ _ => cases h <;> exact hw.elim
    | nil =>
      cases h with
      | lst h1 h2 =>
        obtain ⟨bs, e, q⟩ := hw
        refine ⟨_, bs, rfl, ?_, k _ _ _ (BF.Ex.refl H) (.bl _) q⟩
        rw [← asBl_dat h2 e]
        exact SqL.of h1.1
      | _ => exact hw.elim
mutual
theorem dp_of {b : Addr} {M : List Addr} {H : Hp} : ∀ {v : V} {d : DV} {x : PyData}, Dat K b M H v d → toPy d = some x → Dp K H v x
  | _, _, _, .non, e => by cases e; exact .non
  | _, _, _, .bl x, e => by cases e; exact .bl x
  | _, _, _, .int i, e => by cases e; exact .int i
  | _, _, _, .str x, e => by cases e; exact .str x
  | _, _, _, .lst h l, e => by
    simp only [toPy] at e
    obtain ⟨xs, hx, e⟩ := Option.map_eq_some_iff.mp e
    subst e
    exact .lst (SqL.of h.1) (dp_ofL l hx)
  | _, _, _, .tup h l, e => by
    simp only [toPy] at e
    obtain ⟨xs, hx, e⟩ := Option.map_eq_some_iff.mp e
    subst e
    exact .tup h.1 (dp_ofL l hx)
  | _, _, _, .tupz _ _ _ _, e => by cases e
  | _, _, _, .ins _ _ _ _, e => by cases e
  | _, _, _, .exc _ _ _ _ _ _, e => by cases e
  | _, _, _, .bag, e => by cases e
  | _, _, _, .ty _, e => by cases e
  | _, _, _, .cls _, e => by cases e
theorem dp_ofL {b : Addr} {M : List Addr} {H : Hp} : ∀ {vs : List V} {ds : List DV} {xs : List PyData}, DatL K b M H vs ds → toPyL ds = some xs → DpAll K H vs xs
  | _, _, _, .nil, e => by cases e; exact .nil
  | _, _, _, .cons (d := d) (ds := ds) h l, e => by
    simp only [toPyL] at e
    cases e1 : toPy d with
    | none => rw [e1] at e; cases e
    | some x =>
      cases e2 : toPyL ds with
      | none => rw [e1, e2] at e; cases e
      | some xs =>
        rw [e1, e2] at e
        cases e
        exact .cons (dp_of h e1) (dp_ofL l e2)
end
theorem d_eq : DOp K (fun x y H Q => rEq x y H Q ∨ rEqD K x y H Q) (wEq false) := fun b M H x y d e Q' Q al hx hy hw k => by
  rcases hw with hw | ⟨p, q, e1, e2, s1, s2, hq⟩
  · left
    cases hx <;> cases hy <;> first
      | exact hw.elim
      | exact BF.x_eqI (k _ _ _ (BF.Ex.refl H) (.bl _) hw)
      | exact BF.x_eqS (k _ _ _ (BF.Ex.refl H) (.bl _) hw)
      | exact BF.x_eqB (k _ _ _ (BF.Ex.refl H) (.bl _) hw)
  · exact .inr ⟨p, q, dp_of hx e1, dp_of hy e2, s1, s2, k _ _ _ (BF.Ex.refl H) (.bl _) hq⟩
theorem d_ne : DOp K (fun x y H Q => rNe x y H Q ∨ rNeD K x y H Q) (wEq true) := fun b M H x y d e Q' Q al hx hy hw k => by
  rcases hw with hw | ⟨p, q, e1, e2, s1, s2, hq⟩
  · left
    cases hx <;> cases hy <;> first
      | exact hw.elim
      | exact BF.x_neI (k _ _ _ (BF.Ex.refl H) (.bl _) hw)
      | exact BF.x_neS (k _ _ _ (BF.Ex.refl H) (.bl _) hw)
      | exact BF.x_neB (k _ _ _ (BF.Ex.refl H) (.bl _) hw)
  · exact .inr ⟨p, q, dp_of hx e1, dp_of hy e2, s1, s2, k _ _ _ (BF.Ex.refl H) (.bl _) hq⟩
theorem d_is : DOp K BF.rIsN (wIsN false) := fun b M H x y d e Q' Q al hx hy hw k => by
  cases hx <;> cases hy <;> first | exact hw.elim | exact BF.x_isNo (k _ _ _ (BF.Ex.refl H) (.bl _) hw)
theorem d_isnt : DOp K BF.rNotN (wIsN true) := fun b M H x y d e Q' Q al hx hy hw k => by
  cases hx <;> cases hy <;> first | exact hw.elim | exact BF.x_notNo (k _ _ _ (BF.Ex.refl H) (.bl _) hw)
end
end VF
/-! ## Lists of a slot's own; lambdas -/
namespace VF
open PySem PySem.Spec PyProof.Rows L2
def wListO (wr : WA) : WA := fun τ n Q => wr τ n fun ds τ1 n1 => ∃ xs, (ds = [.lst xs] ∨ ds = [.tup xs]) ∧ Q xs τ1 n1
def wLenV (i : Nat) : WE := fun τ n Q => ∃ s, τ[i]? = some (some s) ∧ match s with
  | .own xs => Q (.int (xs.length : Int)) τ n
  | .d x => wLen [x] fun f => Q f τ n
  | .self _ _ _ _ => False
  | .fix _ xs => Q (.int (xs.length : Int)) τ n
def wIxV (i : Nat) (wb : WE) : WE := fun τ n Q => (∃ xs, τ[i]? = some (some (.own xs)) ∨ τ[i]? = some (some (.d (.lst xs))) ∨ τ[i]? = some (some (.d (.tup xs)))) ∧ wb τ n fun k τ1 n1 => ∃ z xs x, k = .int z ∧ (τ1[i]? = some (some (.own xs)) ∨ τ1[i]? = some (some (.d (.lst xs))) ∨ τ1[i]? = some (some (.d (.tup xs)))) ∧ atI xs z = some x ∧ Q x τ1 n1
def wIns (i : Nat) (wa : WA) : WS := fun D τ n => (∃ xs, τ[i]? = some (some (.own xs))) ∧ wa τ n fun ds τ1 n1 => ∃ z d xs, ds = [.int z, d] ∧ τ1[i]? = some (some (.own xs)) ∧ xs.length < 1000000 ∧ 0 ≤ z ∧ z ≤ 1000000 ∧ D.nx (τ1.set i (some (.own (xs.take z.toNat ++ [d] ++ xs.drop z.toNat)))) n1
def rInsert : V → List V → Hp → VK → Prop := fun x vs H Q => ∃ (l : Addr) (xs : List V) (i : Int) (y : V), x = .ref l ∧ vs = [.int i, y] ∧ H l = some (.lst xs) ∧ xs.length < sizeLine ∧ 0 ≤ i ∧ i < 2 ^ 63 ∧ Q .non (upd H l (.lst (xs.take i.toNat ++ [y] ++ xs.drop i.toNat)))
theorem mt_insertN {X : Cx} : MtR X "list.insert" rInsert := mt_insert
section
variable {K : PySem.W.Frag} {W : Wc} {X : Cx} {e : Expr} {wr wi : WA} {we wb : WE} {st : Stmt} {Cs : Cf → Prop}
theorem vo_list (h : PE X e (tCB (BF.rListLT K) (liftA K W wr))) : PE X e (liftO K W (wListO wr)) := BF.PE.imp h fun σ H Q ⟨Γ, O, τ, n, Q', q, hw, k⟩ => ⟨Γ, O, τ, n, _, q, hw, fun vs H1 ds O1 τ1 n1 q1 d1 ⟨xs, ed, hq⟩ => by
  have fin : ∀ {us : List V}, DatL K W.b (ad O1 ++ W.M0) H1 us xs → ∀ p, H1 p = none → Q (.ref p) (upd H1 p (.lst us)) := fun {us} hd p hp => by
    have e : BF.Ex [] H1 (upd H1 p (.lst us)) := BF.Ex.new hp
    exact k p us _ xs O1 τ1 n1 (q1.apart hp e) upd_same (q1.newO hp) (q1.ownC hp) (DatL.ey (Ey.ex0 e) (DatL.fresh hp hd)) hq
  rcases ed with ed | ed
  · subst ed
    cases d1 with
    | cons h1 h2 =>
      cases h2
      cases h1 with
      | lst a1 a2 => exact ⟨_, _, rfl, .inl (SqL.of a1.1), fin a2⟩
  · subst ed
    cases d1 with
    | cons h1 h2 =>
      cases h2
      cases h1 with
      | tup a1 a2 => exact ⟨_, _, rfl, .inr a1.1, fin a2⟩⟩
theorem ve_lenV {i : Nat} (h : PE X e (tCB (fun xs H Q => ∃ x n, xs = [x] ∧ LenV K x H n ∧ Q (.int n) H) (tCons (tVar i) tNil))) : PE X e (liftE K W (wLenV i)) := BF.PE.imp h fun σ H Q ⟨Γ, O, τ, n, Q', q, ⟨s, hs, hw⟩, k⟩ => by
  obtain ⟨v, hv, hd⟩ := q.slot i s hs
  refine ⟨v, hv, ?_⟩
  cases s with
  | d x => exact d_len W.b (ad O ++ W.M0) H [v] [x] _ Q q.al (.cons hd .nil) hw fun z H' f ex df qf => k z H' f O τ n (q.ex ex) df qf
  | own xs =>
    obtain ⟨a, vs, e1, e2, e3, e4⟩ := hd
    subst e1
    exact ⟨_, _, rfl, .inl ⟨vs, SqL.of e3, e4.length.symm⟩, k _ H _ O τ n q (.int _) hw⟩
  | self z c ns ds => exact hw.elim
  | fix vs xs =>
    obtain ⟨a, e1, e2, e3⟩ := hd
    subst e1
    exact ⟨_, _, rfl, .inl ⟨vs, SqL.of e2.1, e3.length.symm⟩, k _ H _ O τ n q (.int _) hw⟩
theorem ve_ixV {i : Nat} (h : PE X e (tOp (BF.rIxLT K) (tVar i) (liftE K W wb))) : PE X e (liftE K W (wIxV i wb)) := BF.PE.imp h fun σ H Q ⟨Γ, O, τ, n, Q', q, ⟨⟨xs0, h0⟩, hw⟩, k⟩ => by
  have hv0 : ∃ v, σ[i]? = some (some v) := by
    rcases h0 with h0 | h0 | h0 <;> (obtain ⟨v, hv, _⟩ := q.slot i _ h0; exact ⟨v, hv⟩)
  obtain ⟨v, hv⟩ := hv0
  refine ⟨v, hv, Γ, O, τ, n, _, q, hw, fun u H1 kd O1 τ1 n1 q1 d1 ⟨z, xs, x, ek, hs, ha, hq⟩ => ?_⟩
  subst ek
  obtain rfl := int_of d1
  rcases hs with hs | hs | hs
  · obtain ⟨v', hv', a, vs, e1, e2, e3, e4⟩ := q1.slot i _ hs
    obtain rfl : v = v' := by
      rw [hv] at hv'
      exact Option.some.inj (Option.some.inj hv')
    subst e1
    obtain ⟨y, hy, dy⟩ := atI_dat e4 ha
    exact .inl ⟨a, vs, z, y, rfl, rfl, SqL.of e3, hy, k y H1 x O1 τ1 n1 q1 dy hq⟩
  · obtain ⟨v', hv', hd⟩ := q1.slot i _ hs
    obtain rfl : v = v' := by
      rw [hv] at hv'
      exact Option.some.inj (Option.some.inj hv')
    exact d_ix W.b _ H1 v (.int z) (.lst xs) (.int z) (fun f => Q' f τ1 n1) Q q1.al hd (.int z) ⟨x, ha, hq⟩ fun z H' f ex df qf => k z H' f O1 τ1 n1 (q1.ex ex) df qf
  · obtain ⟨v', hv', hd⟩ := q1.slot i _ hs
    obtain rfl : v = v' := by
      rw [hv] at hv'
      exact Option.some.inj (Option.some.inj hv')
    exact d_ix W.b _ H1 v (.int z) (.tup xs) (.int z) (fun f => Q' f τ1 n1) Q q1.al hd (.int z) ⟨x, ha, hq⟩ fun z H' f ex df qf => k z H' f O1 τ1 n1 (q1.ex ex) df qf
theorem vs_ins {i : Nat} (h : PS X st (tDrop (tBM K "list" rInsert (tVar i) (liftA K W wr)))) (i6 : i < 1000000 := by decide) : PS X st (liftS K W (wIns i wr)) := BF.PS.imp' h fun D σ H ⟨Γ, O, τ, n, D', q, ⟨⟨xs0, h0⟩, hw⟩, l⟩ => by
  obtain ⟨v, hv, a, vs, e1, e2, e3, e4⟩ := q.slot i _ h0
  subst e1
  refine ⟨_, hv, BF.x_tyL e3 ?_⟩
  refine ⟨Γ, O, τ, n, _, q, hw, fun us H1 ds O1 τ1 n1 q1 d1 ⟨z, d, xs, ed, hx, hl, z0, z1, hq⟩ => ?_⟩
  subst ed
  cases d1 with
  | @cons v0 _ _ _ dz dn =>
    cases dz
    cases dn with
    | @cons v1 _ _ _ dd dn =>
      cases dn
      obtain ⟨v', hv', a', vs', f1, f2, f3, f4⟩ := q1.slot i _ hx
      obtain rfl : V.ref a = v' := by
        rw [hv] at hv'
        exact Option.some.inj (Option.some.inj hv')
      cases f1
      refine ⟨a, vs', _, _, rfl, rfl, f3, BF.sz_lt (by rw [f4.length]; exact hl), z0, by omega, ?_⟩
      refine l.nx _ _ _ n1 O1 (q1.mut (s' := .own _) i6 f2 f3 nofun nofun (BF.Ex.wr (by simp) (BF.Ex.refl H1)) ⟨_, upd_same, .inl ⟨_, rfl⟩⟩ hv ⟨a, _, rfl, f2, upd_same, ?_⟩) hq
      have ee : Ey (ad O1 ++ W.M0) H1 (upd H1 a (.lst (vs'.take z.toNat ++ [v1] ++ vs'.drop z.toNat))) := (Ey.ex (BF.Ex.wr (M := [a]) (by simp) (BF.Ex.refl H1))).sub fun x hx => by
        rw [List.mem_singleton.mp hx]
        exact List.mem_append_left _ (List.mem_map.mpr ⟨_, f2, rfl⟩)
      have f5 := DatL.ey ee f4
      exact DatL.app (DatL.app (DatL.take _ f5) (.cons (Dat.ey ee dd) .nil)) (DatL.drop _ f5)
/-! lambdas -/
/-- the slots' own lists hidden -/
def hideO (τ : ST) : ST := τ.map fun o => match o with
  | some (.d x) => some (.d x)
  | some (.fix vs xs) => some (.fix vs xs)
  | _ => none
def liftLam (K : PySem.W.Frag) (Cs : Cf → Prop) (wb : XV → WE) (E : XK) : TE := fun σ H Q => ∃ W : Wc, Cs W.toCf ∧ ELinkG K W W.E' E ∧ liftE K W (wb W.E') σ H Q
theorem ve_lambody {wb : XV → WE} {E : XK} {body : Expr} (h : ∀ W : Wc, Cs W.toCf → ELinkG K W W.E' E → PE X body (liftE K W (wb W.E'))) : PE X body (liftLam K Cs wb E) := ⟨fun pins s σ H Q I ⟨W, h1, h2, q⟩ => (h W h1 h2).run pins s σ H Q I q⟩
/-- within a lambda: a run of its own, over what stands -/
theorem lam_in {Γ : List Gh} {O : Om} {τ : ST} {n : Int} {σ : L2.St} {H H1 : Hp} {wb : XV → WE} {E : XK} {E' : XV} {Q : VK} {Q' : DV → ST → Int → Prop} (hC : Cs W.toCf) (q : Rel K W Γ O [] τ n σ H) (eN : LamX.ExtN H H1) (T1 : LamX.Tabs W.T H1) (hw : wb E' (hideO τ) n Q')
    (hE : ∀ c ns ws es dd H' n', Rel K W Γ O [] τ n' σ H' → H' dd = some (.xd (ns.zip ws)) → ns.length = ws.length → DatL K W.b (ad O ++ W.M0) H' ws es → E' c ns es n' → E (.ref (He.ga K c)) (some dd) H')
    (k : ∀ v H' d τ' n', Rel K W Γ O [] τ n' σ H' → Dat K W.b (ad O ++ W.M0) H' v d → Q' d τ' n' → Q v H') : liftLam K Cs wb E σ H1 Q := by
  have al1 : AlN (ad O ++ W.M0) H1 := fun x hx => by
    obtain ⟨o, ho, t⟩ := q.al x hx
    exact ⟨o, eN _ _ ho t.nt, t⟩
  have b1 : W.B H1 n := W.Bk (fun x o hx h => by
    obtain ⟨o', h', t'⟩ := W.Ba q.bag x hx
    rw [h] at h'
    cases h'
    exact eN _ _ h t') q.bag
  have q1 : Rel K W Γ O [] τ n σ H1 := q.step (Ey.N eN) b1 T1 al1
  have back : ∀ {H' : Hp} {n' : Int}, Ey [W.b] H1 H' → AlN (ad O ++ W.M0) H' → W.B H' n' → LamX.Tabs W.T H' → Rel K W Γ O [] τ n' σ H' := fun e a b t => q1.step e b t a
  refine ⟨⟨W.toCf, [W.b], ad O ++ W.M0, H1, List.mem_append_right _ W.bm, List.mem_singleton.mpr rfl, E', E⟩, hC, fun c ns ws es dd H' n' e a b t h1 h2 h3 h4 => hE c ns ws es dd H' n' (back e a b t) h1 h2 h3 h4, [], [], hideO τ, n, Q', ?_, hw, fun v H' d O' τ' n' r dd hq => ?_⟩
  · refine ⟨by unfold hideO; rw [List.length_map]; exact q.len, by unfold hideO; rw [List.length_map]; exact q.few, fun i s hs => ?_, nofun, List.nodup_nil, nofun, Ey.refl _, b1, ⟨n, b1⟩, T1, al1, al1, fun x hx => .inl (List.mem_singleton.mp hx)⟩
    unfold hideO at hs
    rw [List.getElem?_map] at hs
    obtain ⟨o, ho, e⟩ := Option.map_eq_some_iff.mp hs
    cases o with
    | none => cases e
    | some s0 =>
      cases s0 with
      | d x =>
        cases e
        exact q1.slot i _ ho
      | own xs => cases e
      | self z c ns ds => cases e
      | fix vs xs =>
        cases e
        exact q1.slot i _ ho
  · exact k v H' d τ' n' (back r.ext (fun x hx => r.al x (List.mem_append_right _ hx)) r.bag r.tab) (Dat.sub (fun x hx => List.mem_append_right _ hx) dd) hq
end
end VF
/-! ## Pairs with a list of their own, truth, further words -/
namespace VF
open PySem PySem.Spec PyProof.Rows L2
def wParO1 (i j : Nat) (wo : WA) (we : WE) : WS := fun D τ n => wo τ n fun ds τ1 n1 => we τ1 n1 fun d τ2 n2 => D.nx ((τ2.set i (some (.own ds))).set j (some (.d d))) n2
def wParO2 (i j : Nat) (we : WE) (wo : WA) : WS := fun D τ n => we τ n fun d τ1 n1 => wo τ1 n1 fun ds τ2 n2 => D.nx ((τ2.set i (some (.d d))).set j (some (.own ds))) n2
def DV.tru : DV → Option Bool
  | .non => some false
  | .bl b => some b
  | .int i => some (i != 0)
  | .lst xs => some (!xs.isEmpty)
  | .tup xs => some (!xs.isEmpty)
  | _ => none
def wTru (we : WE) : WT := fun τ n Q => we τ n fun d τ1 n1 => ∃ b, d.tru = some b ∧ Q b τ1 n1
def wAug (i : Nat) (g : Int → Int → Int) (we : WE) : WS := fun D τ n => (∃ z, τ[i]? = some (some (.d (.int z)))) ∧ we τ n fun d τ1 n1 => ∃ z k, τ1[i]? = some (some (.d (.int z))) ∧ d = .int k ∧ D.nx (τ1.set i (some (.d (.int (g z k))))) n1
section
variable {K : PySem.W.Frag} {W : Wc} {X : Cx} {e : Expr} {wo : WA} {we : WE} {st : Stmt} {Γ : List Gh} {O : Om} {τ : ST} {n : Int} {σ : L2.St} {H : Hp}
theorem Rel.toGh {a : Addr} {vs : List V} {ds : List DV} (q : Rel K W Γ O [a] τ n σ H) (ha : H a = some (.lst vs)) (hn : a ∉ ad O ++ W.M0) (oc : OwnC W a) (hd : DatL K W.b (a :: (ad O ++ W.M0)) H vs ds) :
    Rel K W (.o 1000000 a vs ds :: Γ) ((1000000, a) :: O) [] τ n σ H ∧ ∀ j us es, Gh.o j a us es ∉ Γ := by
  refine ⟨⟨q.len, q.few, fun i s hs => ?_, fun g hg => ?_, List.nodup_cons.mpr ⟨fun z => hn (List.mem_append_left _ z), q.nd⟩, fun p hp => ?_, q.ext, q.bag, q.bag0, q.tab, fun x hx => ?_, q.al0, q.mdb⟩, fun j us es z => ?_⟩
  · obtain ⟨v, hv, k⟩ := q.slot i s hs
    exact ⟨v, hv, k.sub (fun x h => h) fun a h => List.mem_cons_of_mem _ h⟩
  · rcases List.mem_cons.mp hg with rfl | hg
    · exact ⟨Nat.le_refl _, List.mem_cons_self, ha, hd⟩
    · exact (q.gh g hg).sub (fun x h => h) fun j a _ h => List.mem_cons_of_mem _ h
  · rcases List.mem_cons.mp hp with rfl | hp
    · exact oc
    · exact q.own p hp
  · rcases List.mem_cons.mp (show x ∈ a :: (ad O ++ W.M0) from hx) with rfl | hx
    · exact ⟨_, ha, .inl ⟨_, rfl⟩⟩
    · exact q.al x hx
  · have h := (q.gh _ z).2.1
    exact hn (List.mem_append_left _ (List.mem_map.mpr ⟨_, h, rfl⟩))
theorem Rel.unGh {j : Nat} {a : Addr} {vs : List V} {ds : List DV} (q : Rel K W (.o j a vs ds :: Γ) O [] τ n σ H) (no : ∀ j' us es, Gh.o j' a us es ∉ Γ) :
    ∃ O', Rel K W Γ O' [a] τ n σ H ∧ H a = some (.lst vs) ∧ a ∉ ad O' ++ W.M0 ∧ OwnC W a ∧ DatL K W.b (a :: (ad O' ++ W.M0)) H vs ds ∧ ∀ x ∈ ad O' ++ W.M0, x ∈ ad O ++ W.M0 := by
  obtain ⟨hj, hO, hw, hd⟩ := q.gh (.o j a vs ds) List.mem_cons_self
  have s' : ∀ y ∈ ad (O.filter (fun p => decide (p.2 ≠ a))) ++ W.M0, y ∈ ad O ++ W.M0 := fun y hy => by
    rcases List.mem_append.mp hy with hy | hy
    · obtain ⟨p, hp, e⟩ := List.mem_map.mp hy
      exact List.mem_append_left _ (List.mem_map.mpr ⟨p, (List.mem_filter.mp hp).1, e⟩)
    · exact List.mem_append_right _ hy
  have s : ∀ y ∈ a :: (ad (O.filter (fun p => decide (p.2 ≠ a))) ++ W.M0), y ∈ ad O ++ W.M0 := fun y hy => by
    rcases List.mem_cons.mp hy with rfl | hy
    · exact List.mem_append_left _ (List.mem_map.mpr ⟨_, hO, rfl⟩)
    · exact s' y hy
  refine ⟨O.filter (fun p => decide (p.2 ≠ a)), ⟨q.len, q.few, fun i sv hs => ?_, fun g hg => ?_, q.nd.sublist (List.Sublist.map _ List.filter_sublist), fun p hp => q.own p (List.mem_filter.mp hp).1, q.ext, q.bag, q.bag0, q.tab, fun y hy => q.al y (s' y hy), q.al0, q.mdb⟩, hw, fun z => ?_, q.own _ hO, DatL.sub s hd, s'⟩
  · obtain ⟨v, hv, k⟩ := q.slot i sv hs
    refine ⟨v, hv, k.sub s fun b hb => List.mem_filter.mpr ⟨hb, decide_eq_true fun z => ?_⟩⟩
    have z : b = a := z
    subst z
    have := nd_inj q.nd hb hO
    have h1 := (List.getElem?_eq_some_iff.mp hs).1
    have := q.few
    omega
  · have k := q.gh g (List.mem_cons_of_mem _ hg)
    cases g with
    | d v x => exact Dat.sub s k
    | dl vs ds => exact DatL.sub s k
    | l b vs ds => exact ⟨k.1.sub s, DatL.sub s k.2⟩
    | t b vs ds => exact ⟨k.1.sub s, DatL.sub s k.2⟩
    | o j' b us ds =>
      refine ⟨k.1, List.mem_filter.mpr ⟨k.2.1, decide_eq_true fun z => ?_⟩, k.2.2.1, DatL.sub s k.2.2.2⟩
      have z : b = a := z
      subst z
      exact no _ _ _ hg
  · rcases List.mem_append.mp z with z | z
    · obtain ⟨p, hp, e⟩ := List.mem_map.mp z
      exact of_decide_eq_true (List.mem_filter.mp hp).2 e
    · exact (q.own _ hO).2.1 z
theorem vs_parO1 {i j : Nat} (h : PS X st (tPar i j (tCons (liftO K W wo) (tCons (liftE K W we) tNil)))) (i6 : i < 1000000 := by decide) (j6 : j < 1000000 := by decide) : PS X st (liftS K W (wParO1 i j wo we)) := BF.PS.imp' h fun D σ H ⟨Γ, O, τ, n, D', q, hw, l⟩ => by
  refine ⟨Γ, O, τ, n, _, q, hw, fun a vs H1 ds O1 τ1 n1 q1 h1 h2 h3 h4 hq => ?_⟩
  obtain ⟨q2, no⟩ := q1.toGh h1 h2 h3 h4
  refine ⟨_, _, τ1, n1, _, q2, hq, fun v H2 d O2 τ2 n2 q3 d3 hq' => ⟨_, _, rfl, ?_⟩⟩
  obtain ⟨O', q4, h5, h6, h7, h8, h9⟩ := q3.unGh no
  have d4 := Dat.sub (M' := a :: (ad O' ++ W.M0)) (fun x hx => by
    rcases List.mem_cons.mp hx with rfl | hx
    · exact List.mem_append_left _ (List.mem_map.mpr ⟨_, (q3.gh _ List.mem_cons_self).2.1, rfl⟩)
    · exact h9 x hx) d3
  have q5 := q4.putO i6 h5 h6 h7 h8
  have d5 : Dat K W.b (ad ((i, a) :: O'.filter (fun p => decide (p.1 ≠ i))) ++ W.M0) H2 v d := Dat.sub (fun y hy => by
    rcases List.mem_cons.mp (show y ∈ a :: (ad (O'.filter (fun p => decide (p.1 ≠ i))) ++ W.M0) from hy) with rfl | hy
    · exact List.mem_cons_self
    · exact List.mem_cons_of_mem _ (f_sub y hy)) d4
  exact l.nx _ H2 _ n2 _ (q5.put j6 d5) hq'
theorem vs_parO2 {i j : Nat} (hij : i ≠ j) (h : PS X st (tPar i j (tCons (liftE K W we) (tCons (liftO K W wo) tNil)))) (i6 : i < 1000000 := by decide) (j6 : j < 1000000 := by decide) : PS X st (liftS K W (wParO2 i j we wo)) := BF.PS.imp' h fun D σ H ⟨Γ, O, τ, n, D', q, hw, l⟩ => by
  refine ⟨Γ, O, τ, n, _, q, hw, fun v H1 d O1 τ1 n1 q1 d1 hq => ?_⟩
  refine ⟨.d v d :: Γ, O1, τ1, n1, _, q1.gcons d1, hq, fun a vs H2 ds O2 τ2 n2 q2 h1 h2 h3 h4 hq' => ⟨_, _, rfl, ?_⟩⟩
  have q3 := q2.putO j6 h1 h2 h3 h4
  have dv : Dat K W.b (ad ((j, a) :: O2.filter (fun p => decide (p.1 ≠ j))) ++ W.M0) H2 v d := q3.gh (.d v d) List.mem_cons_self
  have q4 := (q3.tail).put i6 dv
  have q5 := q4
  rw [List.set_comm _ _ (Ne.symm hij), show (σ.set j (some (V.ref a))).set i (some v) = (σ.set i (some v)).set j (some (V.ref a)) from List.set_comm _ _ (Ne.symm hij)] at q5
  exact l.nx _ H2 _ n2 _ q5 hq'
theorem vs_aug {i : Nat} {g : Int → Int → Int} (h : PS X st (tAug i (liftE K W we) (ipI g))) (i6 : i < 1000000 := by decide) : PS X st (liftS K W (wAug i g we)) := BF.PS.imp' h fun D σ H ⟨Γ, O, τ, n, D', q, ⟨⟨z0, h0⟩, hw⟩, l⟩ => by
  obtain ⟨v, hv, hd⟩ := q.slot i _ h0
  refine ⟨v, hv, Γ, O, τ, n, _, q, hw, fun u H1 d O1 τ1 n1 q1 d1 ⟨z, k, hz, ed, hq⟩ => ?_⟩
  subst ed
  obtain ⟨v', hv', hd'⟩ := q1.slot i _ hz
  obtain rfl : v = v' := by
    rw [hv] at hv'
    exact Option.some.inj (Option.some.inj hv')
  exact ⟨z, k, int_of hd', int_of d1, l.nx _ H1 _ n1 _ (q1.put i6 (.int _)) hq⟩
theorem tru_of {b : Addr} {M : List Addr} {v : V} {d : DV} {x : Bool} (h : Dat K b M H v d) (e : d.tru = some x) : TruV K v H x := by
  cases h with
  | non => cases e; rfl
  | bl b => cases e; rfl
  | int i => cases e; rfl
  | lst h1 h2 =>
    cases e
    refine .inl ⟨_, SqL.of h1.1, ?_⟩
    cases h2 <;> rfl
  | tup h1 h2 =>
    cases e
    refine .inr (.inl ⟨_, h1.1, ?_⟩)
    cases h2 <;> rfl
  | _ => cases e
theorem vt_tru (h : PT X e (fun σ H Q => liftE K W we σ H fun x H' => ∃ k, TruV K x H' k ∧ Q k H')) : PT X e (liftT K W (wTru we)) := PT.imp h fun σ H Q ⟨Γ, O, τ, n, Q', q, hw, k⟩ =>
  ⟨Γ, O, τ, n, _, q, hw, fun v H1 d O1 τ1 n1 q1 d1 ⟨b, eb, hq⟩ => ⟨b, tru_of d1 eb, k b H1 O1 τ1 n1 q1 hq⟩⟩
end
end VF
/-! ## Own comparisons; the very same items -/
namespace VF
open PySem PySem.Spec PyProof.Rows L2
section
variable {X : Cx} {CX : CXT} {k : Nat} {f C : Addr} {fd : FuncData} {ps : List Str} {sp : Sp} {E : XK}
/-- a != b of two instances of the class at C by its own __eq__ -/
def rOwnNe (C : Addr) (sp : Sp) (E : XK) : R2 := fun x y H Q => ∃ a b dx dy fs gs, x = .ref a ∧ y = .ref b ∧ H a = some (.ins C dx fs) ∧ H b = some (.ins C dy gs) ∧ sp [.ref a, .ref b] H (fun v H' => ∃ k, v = .bl k ∧ Q (.bl (!k)) H') E
theorem op_ownNe (Fn : FnOk X.prog X.w X.K X.mg X.base CX k f fd ps sp) (hr : Room (k + 1) X.A) (hm : PySem.W.mroIn X.K C (.type "object") = some true) (hn : PySem.W.findIn X.K (.ref C) "__ne__" = some (some (.builtin "object.__ne__"))) (hs : PySem.W.findIn X.K (.ref C) "__eq__" = some (some (.ref f)))
    (hf : PySem.W.isFn X.K (.ref f) = true) (hb : Binds X.K fd ps []) (hx : Passes CX X E) : OpR X (compareOp .NotEq) (rOwnNe C sp E) := by
  intro pins s σ H x y v u Q I rx ry hq
  obtain ⟨a, b, dx, dy, fs, gs, rfl, rfl, ha, hb', q⟩ := hq
  cases rx
  cases ry
  obtain ⟨mA, J, _⟩ := ins_get I.hok ha
  obtain ⟨mB, J', _⟩ := ins_get I.hok hb'
  obtain ⟨od, J, _⟩ := J.look
  obtain ⟨od', J', _⟩ := J'.look
  have hu : X.A.units < cLine := hr.units0
  have hu1 : X.A.in1.units < cLine := hr.in1.units0
  have run : wpAny (model X.prog X.w) X.A.in1 (call (.ref f) [.ref a, .ref b]) (fun v s' => ∃ k, v = .bool k ∧ EP X pins σ Q (.bool (!k)) s') X.xe s := by
    have hl := Fn.len _ _ _ _ q
    have r2 : Vals [V.ref a, V.ref b] [Value.ref a, Value.ref b] := .cons rfl (.cons rfl .nil)
    refine wpAny_call (codeAny_mono (Fn.run X.A.in1 X.stack s H ⟨[.ref a, .ref b], []⟩ [.ref a, .ref b] [.ref a, .ref b] _ E hr.in1 I.env0.in1 (by
      have := hb s [.ref a, .ref b] I.kIn (by simpa using hl)
      simpa using this) r2 q) fun r s' hq => ?_)
    cases r with
    | error e => exact hx pins σ H s e s' I hq
    | ok fl =>
      cases fl with
      | ret w =>
        obtain ⟨z, H', I', rz, k, ez, qq⟩ := I.after hq
        subst ez
        cases rz
        exact ⟨k, rfl, .bl (!k), H', I', rfl, qq⟩
      | next => exact False.elim hq
      | brk => exact False.elim hq
      | cont => exact False.elim hq
  have body : wpAny (model X.prog X.w) X.A.in1 (Builtin.«object.__ne__» ⟨[.ref a, .ref b], []⟩) (fun fin s' => ∃ k, fin = .done (.ret (.bool (!k))) ∧ EP X pins σ Q (.bool (!k)) s') X.xe s := by
    unfold Builtin.«object.__ne__»
    repeat (first
      | with_reducible refine wpAny_cRoomFor hu1 ?_
      | (refine wpAny_bind (m := callSpecialIfBound? (.ref a) (Str.ofString "__eq__") [.ref b]) (PySem.W.ifBound_K I.kIn J hs hf (wpAny_mono run (fun r s' hr => by
          obtain ⟨k, rfl, hq⟩ := hr
          repeat (first | exact ⟨k, rfl, hq⟩ | exact wpAny_pure ⟨k, rfl, hq⟩ | (refine wpAny_bind (m := truthy (.bool _)) (wpAny_truthy_bool ?_)) | wp_step)) fun _ _ e => e)))
      | wp_step)
  have called : wpAny (model X.prog X.w) X.A (call (.builtin "object.__ne__") [.ref a, .ref b]) (fun v s' => v ≠ .notImplemented ∧ EP X pins σ Q v s') X.xe s := by
    refine wpAny_call (codeAny_call_builtin F.cmp_object.ne.plain F.cmpEntry_ne (PySem.W.check_slot F.cmpKind_ne F.cmpSplit_ne (J.type.andThen (PySem.W.looks_mroIn I.kIn hm)) (F.cmpArgs_ne _ _) (wpAny_mono body (fun fin s' h => ?_) fun _ _ e => e)))
    obtain ⟨k, rfl, h⟩ := h
    exact ⟨nofun, h⟩
  have bound : wpAny (model X.prog X.w) X.A (callSpecialIfBound? (.ref a) "__ne__" [.ref b]) (fun r s' => ∃ v, r = some v ∧ v ≠ .notImplemented ∧ EP X pins σ Q v s') X.xe s := by
    simp only [callSpecialIfBound?, bindSpecialIfBound?]
    refine wpAny_holding (wpAny_bind (wpAny_bind (wpAny_bind (J.type.here ((PySem.W.looks_findIn I.kIn hn).here ?_)))))
    refine wpAny_bind (wpAny_askSetting (wpAny_ite ?_))
    have fin : wpAny (model X.prog X.w) X.A (call (.builtin "object.__ne__") ([.ref a] ++ [.ref b]) >>= fun v => pure (some v)) (fun r s' => ∃ v, r = some v ∧ v ≠ .notImplemented ∧ EP X pins σ Q v s') X.xe s := wpAny_bind (wpAny_mono called (fun v s' h' => wpAny_pure ⟨v, rfl, h'⟩) fun _ _ h' => h')
    split
    · exact wpAny_bind (wpAny_of_eq (F.cmp_object.ne.bind _) (wpAny_pure (by exact fin)))
    · exact wpAny_tryCatch (wpAny_bind (wpAny_of_eq (F.cmp_object.ne.bind _) (wpAny_pure (by exact fin))))
  have one : wpAny (model X.prog X.w) X.A (tryCompare (.ref a) "__ne__" (.ref b)) (fun r s' => ∃ v, r = some v ∧ EP X pins σ Q v s') X.xe s := by
    unfold tryCompare
    refine wpAny_bind (wpAny_mono bound (fun r s' h => ?_) fun _ _ e => e)
    obtain ⟨v, rfl, hv, h⟩ := h
    cases v <;> first | exact absurd rfl hv | exact wpAny_pure ⟨_, rfl, h⟩
  show wpAny (model X.prog X.w) X.A (richCompare .NotEq (.ref a) (.ref b)) (EP X pins σ Q) X.xe s
  unfold richCompare
  simp only [oneThing_ref]
  refine wpAny_holding (wpAny_bind (wpAny_cRoomFor hu ?_))
  refine wpAny_bind (J.type.here (wpAny_bind (J'.type.here ?_)))
  rw [show (Value.ref C != Value.ref C) = false from by simp]
  simp only [Bool.false_eq_true, if_false]
  refine wpAny_bind (wpAny_pure ?_)
  simp only [Bool.false_eq_true, if_false]
  refine wpAny_bind (m := tryCompare (.ref a) _ (.ref b)) (wpAny_mono one (fun r s' z => ?_) fun _ _ e => e)
  obtain ⟨v, rfl, hq⟩ := z
  exact wpAny_pure hq
/-- two lists of the very same items -/
def rSame (k : Bool) : R2 := fun x y H Q => ∃ a b vs, x = .ref a ∧ y = .ref b ∧ H a = some (.lst vs) ∧ H b = some (.lst vs) ∧ (∀ v ∈ vs, ∃ c, v = .ref c) ∧ Q (.bl k) H
theorem op_neSame (hu : X.A.units + 64 < cLine) : OpR X (compareOp .NotEq) (rSame false) := by
  intro pins s σ H x y v u Q I rx ry hq
  obtain ⟨a, b, vs, rfl, rfl, ha, hb, hr, q⟩ := hq
  cases rx
  cases ry
  obtain ⟨its, r1, ⟨o1, n1, e1, c1, d1, f1⟩, _⟩ := I.list (SqL.of ha)
  obtain ⟨its', r2, ⟨o2, n2, e2, c2, d2, f2⟩, _⟩ := I.list (SqL.of hb)
  have hi : ∀ {vs : List V} {us us' : List Value}, Vals vs us → Vals vs us' → (∀ v ∈ vs, ∃ c, v = .ref c) → us = us' := by
    intro vs us us' h1
    induction h1 generalizing us' with
    | nil => intro h2 _; cases h2; rfl
    | cons r t ih =>
      intro h2 hr
      cases h2 with
      | cons r' t' =>
        obtain ⟨c, rfl⟩ := hr _ List.mem_cons_self
        cases r
        cases r'
        rw [ih t' fun v hv => hr v (List.mem_cons_of_mem _ hv)]
  have e := hi r1 r2 hr
  subst e
  have z := SeqAt.RcNeAt.lists (e := fun _ => true) (s := s) (A := X.A) ⟨o1, e1, c1, n1, f1⟩ ⟨o2, e2, c2, n2, f2⟩ rfl (by omega) (fun j _ _ => SeqAt.EqAt.same _)
  exact z X.prog X.w X.xe _ (by
    rw [show (!(List.range its.toArray.size).all fun _ => true) = false by simp]
    exact ⟨.bl false, H, I, rfl, q⟩)
end
section
variable {K : PySem.W.Frag} {W : Wc} {X : Cx} {e : Expr} {wa wb : WE} {st : Stmt} {Γ : List Gh} {O : Om} {τ : ST} {n : Int} {σ : L2.St} {H : Hp} {Cs : Cf → Prop}
def wOwn2 (neg : Bool) (cl : Str) (sp : DSp) (E' : XV) (wa wb : WE) : WE := fun τ n Q => wa τ n fun d τ1 n1 => wb τ1 n1 fun f τ2 n2 => ∃ ns es ns' es', d = .ins cl ns es ∧ f = .ins cl ns' es' ∧ sp [d, f] n2 (fun g n3 => if neg = true then ∃ k, g = .bl k ∧ Q (.bl (!k)) τ2 n3 else Q g τ2 n3) E'
theorem ve_own2 {sp : DSp} {E' : XV} {E : XK} {cl : Str} (hC : Cs W.toCf) (hE : ELinkG K W E' E) (h : PE X e (tOp (BF.rOwn (He.ga K cl) (liftSp K Cs sp) E) (liftE K W wa) (liftE K W wb))) : PE X e (liftE K W (wOwn2 false cl sp E' wa wb)) := by
  refine BF.PE.imp h fun σ H Q ⟨Γ, O, τ, n, Q', q, hw, k⟩ => ?_
  refine ⟨Γ, O, τ, n, _, q, hw, fun v H1 d O1 τ1 n1 q1 d1 hw1 => ?_⟩
  refine ⟨.d v d :: Γ, O1, τ1, n1, _, q1.gcons d1, hw1, fun u H2 f O2 τ2 n2 q2 d2 ⟨ns, es, ns', es', ed, ef, hw2⟩ => ?_⟩
  have d3 := q2.head
  subst ed ef
  have a1 := d3
  have a2 := d2
  cases d3 with
  | ins h1 h2 h3 h4 =>
    cases d2 with
    | ins k1 k2 k3 k4 => exact ⟨_, _, _, _, _, _, rfl, rfl, h1, k1, sp_call hC hE q2.tail (.cons a1 (.cons a2 .nil)) hw2 k⟩
theorem ve_own2Ne {sp : DSp} {E' : XV} {E : XK} {cl : Str} (hC : Cs W.toCf) (hE : ELinkG K W E' E) (h : PE X e (tOp (rOwnNe (He.ga K cl) (liftSp K Cs sp) E) (liftE K W wa) (liftE K W wb))) : PE X e (liftE K W (wOwn2 true cl sp E' wa wb)) := by
  refine BF.PE.imp h fun σ H Q ⟨Γ, O, τ, n, Q', q, hw, k⟩ => ?_
  refine ⟨Γ, O, τ, n, _, q, hw, fun v H1 d O1 τ1 n1 q1 d1 hw1 => ?_⟩
  refine ⟨.d v d :: Γ, O1, τ1, n1, _, q1.gcons d1, hw1, fun u H2 f O2 τ2 n2 q2 d2 ⟨ns, es, ns', es', ed, ef, hw2⟩ => ?_⟩
  have d3 := q2.head
  subst ed ef
  have a1 := d3
  have a2 := d2
  cases d3 with
  | ins h1 h2 h3 h4 =>
    cases d2 with
    | ins k1 k2 k3 k4 =>
      refine ⟨_, _, _, _, _, _, rfl, rfl, h1, k1, sp_call (Q' := fun g τ' n3 => ∃ k, g = .bl k ∧ Q' (.bl (!k)) τ' n3) hC hE q2.tail (.cons a1 (.cons a2 .nil)) hw2 fun v H' d O' τ' n' r dd ⟨b, eb, hq⟩ => ?_⟩
      subst eb
      exact ⟨b, bl_of dd, k _ H' _ O' τ' n' r (.bl _) hq⟩
/-- y = list(x): the very same items -/
def wCp (i j : Nat) : WS := fun D τ n => ∃ xs, τ[i]? = some (some (.d (.lst xs))) ∧ ∀ vs, D.nx ((τ.set i (some (.fix vs xs))).set j (some (.fix vs xs))) n
theorem Rel.putS (q : Rel K W Γ O [] τ n σ H) {i : Nat} {v : V} {s : SV} (i6 : i < 1000000) (hs : ∀ O' M', (∀ x ∈ M', x ∈ ad O ++ W.M0) → SlOk K W.b O' M' H i v s) : Rel K W Γ (O.filter (fun p => decide (p.1 ≠ i))) [] (τ.set i (some s)) n (σ.set i (some v)) H := by
  refine ⟨by rw [List.length_set, List.length_set]; exact q.len, by rw [List.length_set]; exact q.few, fun j s' hj => ?_, fun g hg => (q.gh g hg).sub f_sub fun j a h1 h2 => List.mem_filter.mpr ⟨h2, decide_eq_true (show j ≠ i by omega)⟩, q.nd.sublist (List.Sublist.map _ List.filter_sublist), fun p hp => q.own p (List.mem_filter.mp hp).1, q.ext, q.bag, q.bag0, q.tab, fun y hy => q.al y (f_sub y hy), q.al0, q.mdb⟩
  by_cases e : j = i
  · subst e
    by_cases hi : j < τ.length
    · rw [List.getElem?_set_self hi] at hj
      cases hj
      exact ⟨v, by rw [List.getElem?_set_self (by rw [← q.len]; exact hi)], hs _ _ f_sub⟩
    · rw [List.getElem?_eq_none (by rw [List.length_set]; omega)] at hj
      cases hj
  · rw [List.getElem?_set_ne (Ne.symm e)] at hj ⊢
    obtain ⟨u, hu, k⟩ := q.slot j s' hj
    exact ⟨u, hu, k.sub f_sub fun a ha => List.mem_filter.mpr ⟨ha, decide_eq_true e⟩⟩
theorem vs_cp {i j : Nat} (hij : i ≠ j) (h : PS X st (tAsg (tCB (BF.rListLT K) (tCons (tVar i) tNil)) (gName j))) (i6 : i < 1000000 := by decide) (j6 : j < 1000000 := by decide) : PS X st (liftS K W (wCp i j)) := BF.PS.imp' h fun D σ H ⟨Γ, O, τ, n, D', q, ⟨xs, hx, hw⟩, l⟩ => by
  obtain ⟨v, hv, hd⟩ := q.slot i _ hx
  refine ⟨v, hv, ?_⟩
  cases (hd : Dat K W.b (ad O ++ W.M0) H v (.lst xs)) with
  | @lst a vs _ h1 h2 =>
    refine ⟨a, vs, rfl, .inl (SqL.of h1.1), fun p hp => ?_⟩
    have ex : BF.Ex [] H (upd H p (.lst vs)) := BF.Ex.new hp
    have q1 := q.ex ex
    have h1' := h1.ey (Ey.ex0 ex)
    have h2' := DatL.ey (Ey.ex0 ex) h2
    have pn := q.newO hp
    have q2 := q1.putS (i := i) (v := .ref a) (s := .fix vs xs) i6 fun O' M' s => ⟨a, rfl, h1'.sub s, DatL.sub s h2'⟩
    have q3 := q2.putS (i := j) (v := .ref p) (s := .fix vs xs) j6 fun O' M' s => ⟨p, rfl, ⟨upd_same, fun z => pn (f_sub _ (s _ z))⟩, DatL.sub (fun x hx => f_sub _ (s x hx)) h2'⟩
    have e : σ.set i (some (V.ref a)) = σ := by
      apply List.ext_getElem?
      intro m
      by_cases em : m = i
      · subst em
        rw [List.getElem?_set_self (List.getElem?_eq_some_iff.mp hv).1, hv]
      · rw [List.getElem?_set_ne (Ne.symm em)]
    rw [e] at q3
    exact l.nx _ _ _ _ _ q3 (hw vs)
def wSame (k : Bool) (i j : Nat) : WE := fun τ n Q => ∃ vs xs ys, τ[i]? = some (some (.fix vs xs)) ∧ τ[j]? = some (some (.fix vs ys)) ∧ (∀ x ∈ xs, (∃ c ns es, x = .ins c ns es) ∨ (∃ es, x = .tup es) ∨ ∃ es, x = .lst es) ∧ Q (.bl k) τ n
theorem ve_same {k : Bool} {i j : Nat} (h : PE X e (tOp (rSame k) (tVar i) (tVar j))) : PE X e (liftE K W (wSame k i j)) := BF.PE.imp h fun σ H Q ⟨Γ, O, τ, n, Q', q, ⟨vs, xs, ys, h1, h2, hr, hq⟩, k'⟩ => by
  obtain ⟨v, hv, a, e1, e2, e3⟩ := q.slot i _ h1
  obtain ⟨u, hu, b, f1, f2, f3⟩ := q.slot j _ h2
  subst e1 f1
  refine ⟨_, hv, _, hu, a, b, vs, rfl, rfl, e2.1, f2.1, fun v hv => ?_, k' _ H _ O τ n q (.bl _) hq⟩
  obtain ⟨m, hm⟩ := List.mem_iff_getElem?.mp hv
  obtain ⟨d, hd, dd⟩ := e3.get hm
  rcases hr d (List.mem_of_getElem? hd) with ⟨c, ns, es, rfl⟩ | ⟨es, rfl⟩ | ⟨es, rfl⟩ <;> cases dd <;> exact ⟨_, rfl⟩
end
end VF
/-! ## Steps of the readings by data -/
namespace VF
open PySem PySem.Spec PyProof.Rows L2
/-- what follows, the slots to be written out -/
def Nx (D : WEnds) (τ : ST) (n : Int) : Prop := D.nx τ n
def NxG (Q : ST → Prop) (τ : ST) : Prop := Q τ
section
variable {K : PySem.W.Frag} {D : WEnds} {τ τ' : ST} {n : Int} {Q : DV → ST → Int → Prop} {QA : List DV → ST → Int → Prop} {QB : Bool → ST → Int → Prop} {P : DP} {we wa wb wc : WE} {wr wo wi : WA} {t u : WT} {s s' : WS} {g : WG} {gs : WGs} {i j : Nat} {d e : DV} {ds xs ys : List DV} {E' : XV} {QG : ST → Prop}
theorem y_nx (h : τ = τ') (k : D.nx τ' n) : Nx D τ n := by
  subst h
  exact k
theorem y_nxG (h : τ = τ') (k : QG τ') : NxG QG τ := by
  subst h
  exact k
theorem y_seq (k : s { D with nx := s' D } τ n) : wSeq s s' D τ n := k
theorem y_next (k : D.nx τ n) : wNext D τ n := k
theorem y_set (k : we τ n fun d τ1 n1 => Nx D (τ1.set i (some (.d d))) n1) : wSet i we D τ n := k
theorem y_setO (k : wo τ n fun ds τ1 n1 => Nx D (τ1.set i (some (.own ds))) n1) : wSetO i wo D τ n := k
theorem y_asg (k : we τ n fun d τ1 n1 => g d τ1 fun τ2 => D.nx τ2 n1) : wAsg we g D τ n := k
theorem y_par (k : wr τ n fun ds τ1 n1 => ∃ d e, ds = [d, e] ∧ Nx D ((τ1.set i (some (.d d))).set j (some (.d e))) n1) : wPar i j wr D τ n := k
theorem y_par2 {R : DV → DV → Prop} (k : R d e) : ∃ d' e', [d, e] = [d', e'] ∧ R d' e' := ⟨d, e, rfl, k⟩
theorem y_parO1 (k : wo τ n fun ds τ1 n1 => we τ1 n1 fun d τ2 n2 => Nx D ((τ2.set i (some (.own ds))).set j (some (.d d))) n2) : wParO1 i j wo we D τ n := k
theorem y_parO2 (k : we τ n fun d τ1 n1 => wo τ1 n1 fun ds τ2 n2 => Nx D ((τ2.set i (some (.d d))).set j (some (.own ds))) n2) : wParO2 i j we wo D τ n := k
theorem y_ret (k : we τ n fun d _ n1 => D.rt d n1) : wRet we D τ n := k
theorem y_retN (k : D.rt .non n) : wRetN D τ n := k
theorem y_ifS (k : t τ n fun b τ1 n1 => if b = true then s D τ1 n1 else s' D τ1 n1) : wIfS t s s' D τ n := k
theorem y_drop (k : we τ n fun _ τ1 n1 => D.nx τ1 n1) : wDrop we D τ n := k
theorem y_brk (k : D.bk τ n) : wBrk D τ n := k
theorem y_cnt (k : D.ct τ n) : wCnt D τ n := k
theorem y_app (h : τ[i]? = some (some (.own ys))) (k : wr τ n fun ds τ1 n1 => ∃ d xs, ds = [d] ∧ τ1[i]? = some (some (.own xs)) ∧ xs.length < 1000000 ∧ Nx D (τ1.set i (some (.own (xs ++ [d])))) n1) : wApp i wr D τ n := ⟨⟨ys, h⟩, k⟩
theorem y_app2 (h : τ[i]? = some (some (.own xs))) (l : xs.length < 1000000) (k : Nx D (τ.set i (some (.own (xs ++ [d])))) n) : ∃ d' xs, [d] = [d'] ∧ τ[i]? = some (some (.own xs)) ∧ xs.length < 1000000 ∧ Nx D (τ.set i (some (.own (xs ++ [d'])))) n := ⟨d, xs, rfl, h, l, k⟩
theorem y_ins (h : τ[i]? = some (some (.own ys))) (k : wr τ n fun ds τ1 n1 => ∃ z d xs, ds = [.int z, d] ∧ τ1[i]? = some (some (.own xs)) ∧ xs.length < 1000000 ∧ 0 ≤ z ∧ z ≤ 1000000 ∧ Nx D (τ1.set i (some (.own (xs.take z.toNat ++ [d] ++ xs.drop z.toNat)))) n1) : wIns i wr D τ n := ⟨⟨ys, h⟩, k⟩
theorem y_ins2 {z : Int} (h : τ[i]? = some (some (.own xs))) (l : xs.length < 1000000) (z0 : 0 ≤ z) (z1 : z ≤ 1000000) (k : Nx D (τ.set i (some (.own (xs.take z.toNat ++ [d] ++ xs.drop z.toNat)))) n) :
    ∃ z' d' xs, [.int z, d] = [.int z', d'] ∧ τ[i]? = some (some (.own xs)) ∧ xs.length < 1000000 ∧ 0 ≤ z' ∧ z' ≤ 1000000 ∧ Nx D (τ.set i (some (.own (xs.take z'.toNat ++ [d'] ++ xs.drop z'.toNat)))) n := ⟨z, d, xs, rfl, h, l, z0, z1, k⟩
theorem y_setI (k : we τ n fun d τ1 n1 => (∃ xs, τ1[i]? = some (some (.own xs))) ∧ wb τ1 n1 fun k τ2 n2 => ∃ z j xs, k = .int z ∧ τ2[i]? = some (some (.own xs)) ∧ ixN xs.length z = some j ∧ Nx D (τ2.set i (some (.own (xs.set j d)))) n2) : wSetI i wb we D τ n := k
theorem y_setI1 {R : Prop} (h : τ[i]? = some (some (.own xs))) (k : R) : (∃ xs, τ[i]? = some (some (.own xs))) ∧ R := ⟨⟨xs, h⟩, k⟩
theorem y_setI2 {z : Int} {m : Nat} (h : τ[i]? = some (some (.own xs))) (hm : ixN xs.length z = some m) (k : Nx D (τ.set i (some (.own (xs.set m d)))) n) : ∃ z' j xs, DV.int z = .int z' ∧ τ[i]? = some (some (.own xs)) ∧ ixN xs.length z' = some j ∧ Nx D (τ.set i (some (.own (xs.set j d)))) n := ⟨z, m, xs, rfl, h, hm, k⟩
theorem y_for (k : wi τ n fun ds τ1 n1 => wLoop g s D ds τ1 n1) : wFor wi g s D τ n := k
theorem y_loop (I : Nat → ST → Int → Prop) (h0 : I 0 τ n) (hs : ∀ i d τ n, ds[i]? = some d → I i τ n → g d τ fun τ1 => s { D with nx := I (i + 1), ct := I (i + 1), bk := D.nx } τ1 n) (hd : ∀ τ n, I ds.length τ n → D.nx τ n) : wLoop g s D ds τ n := ⟨I, h0, hs, hd⟩
theorem y_raise {c : Str} {ns : List Str} {gd : List DV → List DV} {k : Nat} (h : wr τ n fun ds _ n1 => ds.length = k ∧ E' c ns (gd ds) n1) : wRaise c ns gd k E' wr D τ n := h
/-! expressions -/
theorem y_var (h : τ[i]? = some (some (.d d))) (k : Q d τ n) : wVar i τ n Q := ⟨_, h, k⟩
theorem y_varO (h : τ[i]? = some (some (.own xs))) (k : Q (.lst xs) (τ.set i (some (.d (.lst xs)))) n) : wVar i τ n Q := ⟨_, h, k⟩
theorem y_varF {vs : List V} (h : τ[i]? = some (some (.fix vs xs))) (k : Q (.lst xs) τ n) : wVar i τ n Q := ⟨_, h, k⟩
theorem y_c (k : Q d τ n) : wC d τ n Q := k
theorem y_op {w : DV → DV → DP → Prop} (k : wa τ n fun d τ1 n1 => wb τ1 n1 fun e τ2 n2 => w d e fun f => Q f τ2 n2) : wOp w wa wb τ n Q := k
theorem y_un {w : DV → DP → Prop} (k : wa τ n fun d τ1 n1 => w d fun f => Q f τ1 n1) : wUn w wa τ n Q := k
theorem y_nil (k : QA [] τ n) : wNil τ n QA := k
theorem y_cons (k : we τ n fun d τ1 n1 => wr τ1 n1 fun ds τ2 n2 => QA (d :: ds) τ2 n2) : wCons we wr τ n QA := k
theorem y_cb {w : List DV → DP → Prop} (k : wr τ n fun ds τ1 n1 => w ds fun f => Q f τ1 n1) : wCB w wr τ n Q := k
theorem y_tup (k : wr τ n fun ds τ1 n1 => ds.length ≤ 1000000 ∧ Q (.tup ds) τ1 n1) : wTup wr τ n Q := k
theorem y_lst (k : wr τ n fun ds τ1 n1 => ds.length ≤ 1000000 ∧ Q (.lst ds) τ1 n1) : wLst wr τ n Q := k
theorem y_lstO (k : wr τ n fun ds τ1 n1 => ds.length ≤ 1000000 ∧ QA ds τ1 n1) : wLstO wr τ n QA := k
theorem y_len1 {R : Prop} (h : ds.length ≤ 1000000) (k : R) : ds.length ≤ 1000000 ∧ R := ⟨h, k⟩
theorem y_B (k : we τ n fun d τ1 n1 => ∃ b, d = .bl b ∧ QB b τ1 n1) : wB we τ n QB := k
theorem y_bl {b : Bool} {R : Bool → Prop} (k : R b) : ∃ c, DV.bl b = .bl c ∧ R c := ⟨b, rfl, k⟩
theorem y_and (k : t τ n fun c τ1 n1 => if c = true then u τ1 n1 QB else QB false τ1 n1) : wAnd t u τ n QB := k
theorem y_or (k : t τ n fun c τ1 n1 => if c = true then QB true τ1 n1 else u τ1 n1 QB) : wOr t u τ n QB := k
theorem y_not (k : t τ n fun c τ1 n1 => QB (!c) τ1 n1) : wNot t τ n QB := k
theorem y_andV (k : wa τ n fun d τ1 n1 => ∃ c, d = .bl c ∧ if c = true then wb τ1 n1 Q else Q (.bl false) τ1 n1) : wAndV wa wb τ n Q := k
theorem y_orV (k : wa τ n fun d τ1 n1 => ∃ c, d = .bl c ∧ if c = true then Q (.bl true) τ1 n1 else wb τ1 n1 Q) : wOrV wa wb τ n Q := k
theorem y_notV (k : wa τ n fun d τ1 n1 => ∃ c, d = .bl c ∧ Q (.bl (!c)) τ1 n1) : wNotV wa τ n Q := k
theorem y_if (k : t τ n fun c τ1 n1 => if c = true then wa τ1 n1 Q else wb τ1 n1 Q) : wIf t wa wb τ n Q := k
theorem y_sl {w : DV → Option Int → Option Int → DP → Prop} {wl wh : Option WE} (k : wa τ n fun d τ1 n1 => wP wl τ1 n1 fun l τ2 n2 => wP wh τ2 n2 fun u τ3 n3 => w d l u fun f => Q f τ3 n3) : wSl w wa wl wh τ n Q := k
theorem y_P0 {R : Option Int → ST → Int → Prop} (k : R none τ n) : wP none τ n R := k
theorem y_P1 {R : Option Int → ST → Int → Prop} (k : we τ n fun x τ1 n1 => ∃ i, x = .int i ∧ R (some i) τ1 n1) : wP (some we) τ n R := k
theorem y_int {z : Int} {R : Int → Prop} (k : R z) : ∃ i, DV.int z = .int i ∧ R i := ⟨z, rfl, k⟩
theorem y_chain {w w' : DV → DV → DP → Prop} (k : wa τ n fun d τ1 n1 => wb τ1 n1 fun e τ2 n2 => w d e fun f => ∃ k, f = .bl k ∧ (if k = true then wc τ2 n2 fun g τ3 n3 => w' e g fun z => Q z τ3 n3 else Q (.bl false) τ2 n2)) : wChain w w' wa wb wc τ n Q := k
theorem y_call {sp : DSp} {dds : List DV} (k : wr τ n fun ds τ1 n1 => sp (ds ++ dds) n1 (fun d n2 => Q d τ1 n2) E') : wCall sp dds E' wr τ n Q := k
theorem y_meth {c m : Str} {sp : DSp} {dds : List DV} (k : wa τ n fun d τ1 n1 => ∃ ns es, d = .ins c ns es ∧ ns.contains m = false ∧ wr τ1 n1 fun ds τ2 n2 => sp (d :: (ds ++ dds)) n2 (fun f n3 => Q f τ2 n3) E') : wMeth c m sp dds E' wa wr τ n Q := k
theorem y_meth2 {c m : Str} {ns : List Str} {R : Prop} (h : ns.contains m = false) (k : R) : ∃ ns' es', DV.ins c ns ds = .ins c ns' es' ∧ ns'.contains m = false ∧ R := ⟨ns, ds, rfl, h, k⟩
theorem y_fld {f : Str} (k : wa τ n fun d τ1 n1 => ∃ c ns es x, d = .ins c ns es ∧ AtOk K c f ∧ lk ns es f = some x ∧ Q x τ1 n1) : wFld K wa f τ n Q := k
theorem y_fld2 {c f : Str} {ns : List Str} {x : DV} {R : DV → Prop} (h : AtOk K c f) (l : lk ns ds f = some x) (k : R x) : ∃ c' ns' es' x, DV.ins c ns ds = .ins c' ns' es' ∧ AtOk K c' f ∧ lk ns' es' f = some x ∧ R x := ⟨c, ns, ds, x, rfl, h, l, k⟩
theorem y_fldS {z : Addr} {c f : Str} {ns : List Str} {x : DV} (h : τ[i]? = some (some (.self z c ns ds)) ∨ τ[i]? = some (some (.d (.ins c ns ds)))) (a : AtOk K c f) (l : lk ns ds f = some x) (k : Q x τ n) : wFldS K i f τ n Q := ⟨z, c, ns, ds, x, h, a, l, k⟩
theorem y_OL (k : wo τ n fun ds τ1 n1 => Q (.lst ds) τ1 n1) : wOL wo τ n Q := k
theorem y_lc {vs : List Nat} (k : wi τ n fun ds τ1 n1 => NoOwn τ1 vs ∧ wLcGo g t we vs ds τ1 n1 QA) : wLc wi g t we vs τ n QA := k
theorem y_lcI {vs : List Nat} (I : Nat → List DV → Int → Prop) (h0 : I 0 [] n) (hs : ∀ i d acc n, ds[i]? = some d → I i acc n → g d (wipeT τ vs) fun τ1 => t τ1 n fun b τ2 n2 => wipeT τ2 vs = wipeT τ vs ∧ if b = true then we τ2 n2 fun y τ3 n3 => wipeT τ3 vs = wipeT τ vs ∧ acc.length < 1000000 ∧ I (i + 1) (acc ++ [y]) n3 else I (i + 1) acc n2)
    (hd : ∀ acc n, I ds.length acc n → QA acc τ n) : wLcGo g t we vs ds τ n QA := ⟨I, h0, hs, hd⟩
theorem y_yes (k : QB true τ n) : wYes τ n QB := k
theorem y_name (k : NxG QG (τ.set i (some (.d d)))) : wName i d τ QG := k
theorem y_gnil (k : QG τ) : wGNil [] τ QG := ⟨rfl, k⟩
theorem y_gcons (k : g d τ fun τ' => gs ds τ' QG) : wGCons g gs (d :: ds) τ QG := ⟨d, ds, rfl, k⟩
theorem y_gtup {m : Nat} (h : ds.length = m) (k : gs ds τ QG) : wGTup m gs (.tup ds) τ QG := ⟨ds, rfl, h, k⟩
theorem y_rng1 (k : wr τ n fun ds τ1 n1 => ∃ j, ds = [.int j] ∧ -1000000000000 ≤ j ∧ j ≤ 1000000000000 ∧ QA (rngD 0 j.toNat) τ1 n1) : wRng1 wr τ n QA := k
theorem y_rng1b {z : Int} {R : Int → Prop} (h0 : -1000000000000 ≤ z) (h1 : z ≤ 1000000000000) (k : R z) : ∃ j, [DV.int z] = [.int j] ∧ -1000000000000 ≤ j ∧ j ≤ 1000000000000 ∧ R j := ⟨z, rfl, h0, h1, k⟩
theorem y_zip (k : wr τ n fun ds τ1 n1 => ∃ xs ys, (ds = [.lst xs, .lst ys] ∨ ds = [.tup xs, .tup ys]) ∧ QA (zipD xs ys) τ1 n1) : wZip wr τ n QA := k
theorem y_zipL {R : List DV → List DV → Prop} (k : R xs ys) : ∃ xs' ys', ([DV.lst xs, .lst ys] = [.lst xs', .lst ys'] ∨ [DV.lst xs, .lst ys] = [.tup xs', .tup ys']) ∧ R xs' ys' := ⟨xs, ys, .inl rfl, k⟩
theorem y_iL {R : List DV → Prop} (k : R xs) : ∃ ds, DV.lst xs = .lst ds ∧ R ds := ⟨xs, rfl, k⟩
theorem y_iT {R : List DV → Prop} (k : R xs) : ∃ ds, DV.tup xs = .tup ds ∧ R ds := ⟨xs, rfl, k⟩
theorem y_lenO (h : τ[i]? = some (some (.own xs))) (k : Q (.int (xs.length : Int)) τ n) : wLenV i τ n Q := ⟨_, h, k⟩
theorem y_lenD (h : τ[i]? = some (some (.d (.lst xs)))) (k : Q (.int (xs.length : Int)) τ n) : wLenV i τ n Q := ⟨_, h, k⟩
theorem y_ixVO (h : τ[i]? = some (some (.own ys))) (k : wb τ n fun k τ1 n1 => ∃ z xs x, k = .int z ∧ (τ1[i]? = some (some (.own xs)) ∨ τ1[i]? = some (some (.d (.lst xs))) ∨ τ1[i]? = some (some (.d (.tup xs)))) ∧ atI xs z = some x ∧ Q x τ1 n1) : wIxV i wb τ n Q := ⟨⟨ys, .inl h⟩, k⟩
theorem y_ixVL (h : τ[i]? = some (some (.d (.lst ys)))) (k : wb τ n fun k τ1 n1 => ∃ z xs x, k = .int z ∧ (τ1[i]? = some (some (.own xs)) ∨ τ1[i]? = some (some (.d (.lst xs))) ∨ τ1[i]? = some (some (.d (.tup xs)))) ∧ atI xs z = some x ∧ Q x τ1 n1) : wIxV i wb τ n Q := ⟨⟨ys, .inr (.inl h)⟩, k⟩
theorem y_ixO {z : Int} {x : DV} (h : τ[i]? = some (some (.own xs))) (a : atI xs z = some x) (k : Q x τ n) : ∃ z' xs x, DV.int z = .int z' ∧ (τ[i]? = some (some (.own xs)) ∨ τ[i]? = some (some (.d (.lst xs))) ∨ τ[i]? = some (some (.d (.tup xs)))) ∧ atI xs z' = some x ∧ Q x τ n := ⟨z, xs, x, rfl, .inl h, a, k⟩
theorem y_ixD {z : Int} {x : DV} (h : τ[i]? = some (some (.d (.lst xs)))) (a : atI xs z = some x) (k : Q x τ n) : ∃ z' xs x, DV.int z = .int z' ∧ (τ[i]? = some (some (.own xs)) ∨ τ[i]? = some (some (.d (.lst xs))) ∨ τ[i]? = some (some (.d (.tup xs)))) ∧ atI xs z' = some x ∧ Q x τ n := ⟨z, xs, x, rfl, .inr (.inl h), a, k⟩
theorem y_tru {b : Bool} (k : we τ n fun d τ1 n1 => ∃ b, d.tru = some b ∧ QB b τ1 n1) : wTru we τ n QB := k
theorem y_tru1 {b : Bool} {R : Bool → Prop} (h : d.tru = some b) (k : R b) : ∃ b, d.tru = some b ∧ R b := ⟨b, h, k⟩
theorem y_listOL (k : QA xs τ n) (h : ds = [.lst xs]) : ∃ ys, (ds = [.lst ys] ∨ ds = [.tup ys]) ∧ QA ys τ n := ⟨xs, .inl h, k⟩
theorem y_listO (k : wr τ n fun ds τ1 n1 => ∃ xs, (ds = [.lst xs] ∨ ds = [.tup xs]) ∧ QA xs τ1 n1) : wListO wr τ n QA := k
theorem y_listO1 {R : List DV → Prop} (k : R xs) : ∃ ys, ([DV.lst xs] = [.lst ys] ∨ [DV.lst xs] = [.tup ys]) ∧ R ys := ⟨xs, .inl rfl, k⟩
theorem y_listO2 {R : List DV → Prop} (k : R xs) : ∃ ys, ([DV.tup xs] = [.lst ys] ∨ [DV.tup xs] = [.tup ys]) ∧ R ys := ⟨xs, .inr rfl, k⟩
theorem y_own2 {cl : Str} {sp : DSp} (k : wa τ n fun d τ1 n1 => wb τ1 n1 fun f τ2 n2 => ∃ ns es ns' es', d = .ins cl ns es ∧ f = .ins cl ns' es' ∧ sp [d, f] n2 (fun g n3 => if false = true then ∃ k, g = .bl k ∧ Q (.bl (!k)) τ2 n3 else Q g τ2 n3) E') : wOwn2 false cl sp E' wa wb τ n Q := k
theorem y_own2N {cl : Str} {sp : DSp} (k : wa τ n fun d τ1 n1 => wb τ1 n1 fun f τ2 n2 => ∃ ns es ns' es', d = .ins cl ns es ∧ f = .ins cl ns' es' ∧ sp [d, f] n2 (fun g n3 => if true = true then ∃ k, g = .bl k ∧ Q (.bl (!k)) τ2 n3 else Q g τ2 n3) E') : wOwn2 true cl sp E' wa wb τ n Q := k
theorem y_own2b {cl : Str} {ns ns' : List Str} {es es' : List DV} {R : DV → DV → Prop} (k : R (.ins cl ns es) (.ins cl ns' es')) : ∃ ms fs ms' fs', DV.ins cl ns es = .ins cl ms fs ∧ DV.ins cl ns' es' = .ins cl ms' fs' ∧ R (.ins cl ns es) (.ins cl ns' es') := ⟨_, _, _, _, rfl, rfl, k⟩
/-! data -/
theorem y_addI {a b : Int} (k : P (.int (a + b))) : wAdd (.int a) (.int b) P := k
theorem y_addL (l : xs.length + ys.length ≤ 1000000) (k : P (.lst (xs ++ ys))) : wAdd (.lst xs) (.lst ys) P := ⟨l, k⟩
theorem y_addT (l : xs.length + ys.length ≤ 1000000) (k : P (.tup (xs ++ ys))) : wAdd (.tup xs) (.tup ys) P := ⟨l, k⟩
theorem y_I0 {f : Int → Int → Int} {a b : Int} (k : P (.int (f a b))) : wI0 f (.int a) (.int b) P := k
theorem y_I {C : Int → Int → Prop} {f : Int → Int → Int} {a b : Int} (h : C a b) (k : P (.int (f a b))) : wI C f (.int a) (.int b) P := ⟨h, k⟩
theorem y_IB {f : Int → Int → Bool} {a b : Int} (k : P (.bl (f a b))) : wIB f (.int a) (.int b) P := k
theorem y_neg {a : Int} (k : P (.int (-a))) : wNeg (.int a) P := k
theorem y_ixL {z : Int} (h : atI xs z = some d) (k : P d) : wIx (.lst xs) (.int z) P := ⟨d, h, k⟩
theorem y_ixT {z : Int} (h : atI xs z = some d) (k : P d) : wIx (.tup xs) (.int z) P := ⟨d, h, k⟩
theorem y_slL {l u : Option Int} (k : P (.lst (cutD xs l u))) : wSlice (.lst xs) l u P := k
theorem y_slT {l u : Option Int} (k : P (.tup (cutD xs l u))) : wSlice (.tup xs) l u P := k
theorem y_lenL (k : P (.int (xs.length : Int))) : wLen [.lst xs] P := k
theorem y_lenT (k : P (.int (xs.length : Int))) : wLen [.tup xs] P := k
theorem y_listL (k : P (.lst xs)) : wList [.lst xs] P := k
theorem y_listT (k : P (.lst xs)) : wList [.tup xs] P := k
theorem y_tupL (k : P (.tup xs)) : wTuple [.lst xs] P := k
theorem y_tupT (k : P (.tup xs)) : wTuple [.tup xs] P := k
theorem y_intI {a : Int} (k : P (.int a)) : wInt [.int a] P := k
theorem y_abs {a : Int} (k : P (.int (a.natAbs : Int))) : wAbs [.int a] P := k
theorem y_max {a b : Int} (k : P (.int (max a b))) : wMax2 [.int a, .int b] P := k
theorem y_min {a b : Int} (k : P (.int (min a b))) : wMin2 [.int a, .int b] P := k
theorem y_all {bs : List Bool} (h : asBl xs = some bs) (k : P (.bl (bs.all id))) : wAll [.lst xs] P := ⟨bs, h, k⟩
theorem y_any {bs : List Bool} (h : asBl xs = some bs) (k : P (.bl (bs.any id))) : wAny [.lst xs] P := ⟨bs, h, k⟩
theorem y_eqI {a b : Int} (k : P (.bl (decide (a = b)))) : wEq false (.int a) (.int b) P := .inl k
theorem y_neI {a b : Int} (k : P (.bl (!decide (a = b)))) : wEq true (.int a) (.int b) P := .inl k
theorem y_eqS {a b : Str} (k : P (.bl (decide (a = b)))) : wEq false (.str a) (.str b) P := .inl k
theorem y_neS {a b : Str} (k : P (.bl (!decide (a = b)))) : wEq true (.str a) (.str b) P := .inl k
theorem y_eqB {a b : Bool} (k : P (.bl (a == b))) : wEq false (.bl a) (.bl b) P := .inl k
theorem y_neB {a b : Bool} (k : P (.bl (!(a == b)))) : wEq true (.bl a) (.bl b) P := .inl k
theorem y_eqD {x y : PyData} {b : Bool} (h1 : toPy d = some x) (h2 : toPy e = some y) (s1 : SeqAt.shaped x = true) (s2 : SeqAt.shaped y = true) (hb : PyData.eqv x y = b) (k : P (.bl b)) : wEq false d e P := .inr ⟨x, y, h1, h2, s1, s2, by rw [hb]; exact k⟩
theorem y_neD {x y : PyData} {b : Bool} (h1 : toPy d = some x) (h2 : toPy e = some y) (s1 : SeqAt.shaped x = true) (s2 : SeqAt.shaped y = true) (hb : PyData.eqv x y = b) (k : P (.bl (!b))) : wEq true d e P := .inr ⟨x, y, h1, h2, s1, s2, by rw [hb]; exact k⟩
/-! comprehensions -/
def noOwnB (τ : ST) (vs : List Nat) : Bool := vs.all fun i => match τ[i]? with
  | some (some (.d _)) => true
  | some none => true
  | none => true
  | _ => false
theorem noOwn_of {vs : List Nat} (h : noOwnB τ vs = true) : NoOwn τ vs := fun i hi s hs => by
  have := List.all_eq_true.mp h i hi
  simp only [hs] at this
  cases s with
  | d x => exact ⟨x, rfl⟩
  | _ => cases this
theorem y_noOwn {vs : List Nat} {R : Prop} (h : noOwnB τ vs = true) (k : R) : NoOwn τ vs ∧ R := ⟨noOwn_of h, k⟩
theorem y_wipe {vs : List Nat} {τ2 : ST} {R : Prop} (h : wipeT τ2 vs = wipeT τ vs) (k : R) : wipeT τ2 vs = wipeT τ vs ∧ R := ⟨h, k⟩
theorem y_acc {acc : List DV} {R : Prop} (h : acc.length < 1000000) (k : R) : acc.length < 1000000 ∧ R := ⟨h, k⟩
theorem y_lcMap {vs : List Nat} (f : DV → DV) (hl : ds.length ≤ 1000000) (hs : ∀ (i : Nat) d acc (R : List DV → Int → Prop), ds[i]? = some d → acc.length < 1000000 → R (acc ++ [f d]) n → g d (wipeT τ vs) fun τ1 => t τ1 n fun b τ2 n2 => wipeT τ2 vs = wipeT τ vs ∧
    if b = true then we τ2 n2 fun y τ3 n3 => wipeT τ3 vs = wipeT τ vs ∧ acc.length < 1000000 ∧ R (acc ++ [y]) n3 else R acc n2) (k : QA (ds.map f) τ n) : wLcGo g t we vs ds τ n QA := by
  refine ⟨fun i acc n' => n' = n ∧ acc = (ds.take i).map f, ⟨rfl, rfl⟩, fun i d acc n' hd ⟨e1, e2⟩ => ?_, fun acc n' ⟨e1, e2⟩ => ?_⟩
  · subst e1
    have hi : i < ds.length := (List.getElem?_eq_some_iff.mp hd).1
    have hacc : acc.length < 1000000 := by rw [e2, List.length_map, List.length_take]; omega
    refine hs i d acc (fun a m => m = n' ∧ a = (ds.take (i + 1)).map f) hd hacc ⟨rfl, ?_⟩
    rw [e2, List.take_succ, hd, List.map_append]
    rfl
  · subst e1
    rw [List.take_length] at e2
    rw [e2]
    exact k
theorem y_lcFM {vs : List Nat} (p : DV → Bool) (f : DV → DV) (hl : ds.length ≤ 1000000) (hs : ∀ (i : Nat) d acc (R : List DV → Int → Prop), ds[i]? = some d → acc.length < 1000000 → (p d = true → R (acc ++ [f d]) n) → (p d = false → R acc n) → g d (wipeT τ vs) fun τ1 => t τ1 n fun b τ2 n2 => wipeT τ2 vs = wipeT τ vs ∧
    if b = true then we τ2 n2 fun y τ3 n3 => wipeT τ3 vs = wipeT τ vs ∧ acc.length < 1000000 ∧ R (acc ++ [y]) n3 else R acc n2) (k : QA ((ds.filter p).map f) τ n) : wLcGo g t we vs ds τ n QA := by
  refine ⟨fun i acc n' => n' = n ∧ acc = ((ds.take i).filter p).map f, ⟨rfl, rfl⟩, fun i d acc n' hd ⟨e1, e2⟩ => ?_, fun acc n' ⟨e1, e2⟩ => ?_⟩
  · subst e1
    have hi : i < ds.length := (List.getElem?_eq_some_iff.mp hd).1
    have hacc : acc.length < 1000000 := by
      rw [e2, List.length_map]
      refine Nat.lt_of_le_of_lt (List.length_filter_le ..) ?_
      rw [List.length_take]
      omega
    refine hs i d acc (fun a m => m = n' ∧ a = ((ds.take (i + 1)).filter p).map f) hd hacc (fun hp => ⟨rfl, ?_⟩) fun hp => ⟨rfl, ?_⟩
    · rw [e2, List.take_succ, hd, List.filter_append, List.map_append]
      simp [hp]
    · rw [e2, List.take_succ, hd, List.filter_append, List.map_append]
      simp [hp]
  · subst e1
    rw [List.take_length] at e2
    rw [e2]
    exact k
end
end VF
/-! macros: v (steps of the readings by data) -/
local macro_rules | `(tactic| walk_at "vset") => `(tactic| first | (simp only [List.set_cons_succ, List.set_cons_zero]; done) | (simp only [List.set_cons_succ, List.set_cons_zero]; rfl) | rfl)
local macro_rules | `(tactic| walk_at "vn") => `(tactic| first | ((with_reducible apply VF.y_nx); ((first | (simp only [List.set_cons_succ, List.set_cons_zero]; done) | (simp only [List.set_cons_succ, List.set_cons_zero]; rfl) | rfl))) | ((with_reducible apply VF.y_nxG); ((first | (simp only [List.set_cons_succ, List.set_cons_zero]; done) | (simp only [List.set_cons_succ, List.set_cons_zero]; rfl) | rfl))))
local macro_rules | `(tactic| walk_at "v1") => `(tactic| (with_reducible first | refine' VF.y_seq ?_ | refine' VF.y_next ?_ | refine' VF.y_set ?_ | refine' VF.y_setO ?_ | refine' VF.y_asg ?_ | refine' VF.y_par ?_ | refine' VF.y_par2 ?_ | refine' VF.y_parO1 ?_ | refine' VF.y_parO2 ?_ | refine' VF.y_ret ?_ | refine' VF.y_retN ?_ | refine' VF.y_ifS ?_ | refine' VF.y_drop ?_ | refine' VF.y_brk ?_ | refine' VF.y_cnt ?_ | refine' VF.y_setI ?_ | refine' VF.y_for ?_ | refine' VF.y_raise ?_ | refine' VF.y_c ?_ | refine' VF.y_op ?_ | refine' VF.y_un ?_ | refine' VF.y_nil ?_ | refine' VF.y_cons ?_ | refine' VF.y_cb ?_ | refine' VF.y_tup ?_ | refine' VF.y_lst ?_ | refine' VF.y_lstO ?_ | refine' VF.y_B ?_ | refine' VF.y_bl ?_ | refine' VF.y_and ?_ | refine' VF.y_or ?_ | refine' VF.y_not ?_ | refine' VF.y_andV ?_ | refine' VF.y_orV ?_ | refine' VF.y_notV ?_ | refine' VF.y_if ?_ | refine' VF.y_sl ?_ | refine' VF.y_P0 ?_ | refine' VF.y_P1 ?_ | refine' VF.y_int ?_ | refine' VF.y_chain ?_ | refine' VF.y_call ?_ | refine' VF.y_meth ?_ | refine' VF.y_fld ?_ | refine' VF.y_OL ?_ | refine' VF.y_lc ?_ | refine' VF.y_yes ?_ | refine' VF.y_name ?_ | refine' VF.y_gnil ?_ | refine' VF.y_gcons ?_ | refine' VF.y_rng1 ?_ | refine' VF.y_zip ?_ | refine' VF.y_zipL ?_ | refine' VF.y_iL ?_ | refine' VF.y_iT ?_ | refine' VF.y_tru (b := true) ?_ | refine' VF.y_listO ?_ | refine' VF.y_listO1 ?_ | refine' VF.y_listO2 ?_ | refine' VF.y_own2 ?_ | refine' VF.y_own2N ?_ | refine' VF.y_own2b ?_ | refine' VF.y_addI ?_ | refine' VF.y_I0 ?_ | refine' VF.y_IB ?_ | refine' VF.y_neg ?_ | refine' VF.y_slL ?_ | refine' VF.y_slT ?_ | refine' VF.y_lenL ?_ | refine' VF.y_lenT ?_ | refine' VF.y_listL ?_ | refine' VF.y_listT ?_ | refine' VF.y_tupL ?_ | refine' VF.y_tupT ?_ | refine' VF.y_intI ?_ | refine' VF.y_abs ?_ | refine' VF.y_max ?_ | refine' VF.y_min ?_ | refine' VF.y_eqI ?_ | refine' VF.y_neI ?_ | refine' VF.y_eqS ?_ | refine' VF.y_neS ?_ | refine' VF.y_eqB ?_ | refine' VF.y_neB ?_ | refine' BF.x_iteY ?_ | refine' BF.x_iteNo ?_))
local macro_rules | `(tactic| walk_at "v2") => `(tactic| first | ((with_reducible apply VF.y_var); (with_unfolding_all rfl)) | ((with_reducible apply VF.y_varF); (with_unfolding_all rfl)) | ((with_reducible apply VF.y_varO); (with_unfolding_all rfl)) | ((with_reducible apply VF.y_ixL); (with_unfolding_all rfl)) | ((with_reducible apply VF.y_ixT); (with_unfolding_all rfl)) | ((with_reducible apply VF.y_gtup); (with_unfolding_all rfl)) | ((with_reducible apply VF.y_len1); (simp only [List.length_cons, List.length_nil]; omega)) | ((with_reducible apply VF.y_I); ((first | ((with_reducible refine BF.cpow_of ?_ ?_ ?_ ?_) <;> omega) | ((with_reducible refine BF.cmul_of ?_ ?_ ?_ ?_) <;> omega) | ((with_reducible refine BF.cdiv_of ?_ ?_) <;> omega) | (show (0 : Int) < _; omega)))) | ((with_reducible apply VF.y_rng1b); omega; omega) | ((with_reducible apply VF.y_lenO); (with_unfolding_all rfl)) | ((with_reducible apply VF.y_lenD); (with_unfolding_all rfl)) | ((with_reducible apply VF.y_ixVO); (with_unfolding_all rfl)) | ((with_reducible apply VF.y_ixVL); (with_unfolding_all rfl)) | ((with_reducible apply VF.y_app); (with_unfolding_all rfl)) | ((with_reducible apply VF.y_ins); (with_unfolding_all rfl)) | ((with_reducible apply VF.y_setI1); (with_unfolding_all rfl)) | ((with_reducible apply VF.y_fld2); (assumption); (with_unfolding_all rfl)) | ((with_reducible apply VF.y_noOwn); (with_unfolding_all rfl)) | ((with_reducible apply VF.y_wipe); (with_unfolding_all rfl)) | ((with_reducible apply VF.y_acc); (assumption)) | ((with_reducible apply VF.y_tru1); (with_unfolding_all rfl)))
local macro_rules | `(tactic| walk_at "vin") => `(tactic| (dsimp only [VF.startT, List.map, List.append_eq, List.append, HAppend.hAppend, Append.append, List.length_cons, List.length_nil, List.cons_append, List.nil_append, List.replicate_succ, List.replicate_zero, Nat.reduceAdd, Nat.reduceSub, List.append_nil, Nat.zero_add]))
local macro_rules | `(tactic| walk_at "v") => `(tactic| repeat (first | ((with_reducible first | refine' VF.y_seq ?_ | refine' VF.y_next ?_ | refine' VF.y_set ?_ | refine' VF.y_setO ?_ | refine' VF.y_asg ?_ | refine' VF.y_par ?_ | refine' VF.y_par2 ?_ | refine' VF.y_parO1 ?_ | refine' VF.y_parO2 ?_ | refine' VF.y_ret ?_ | refine' VF.y_retN ?_ | refine' VF.y_ifS ?_ | refine' VF.y_drop ?_ | refine' VF.y_brk ?_ | refine' VF.y_cnt ?_ | refine' VF.y_setI ?_ | refine' VF.y_for ?_ | refine' VF.y_raise ?_ | refine' VF.y_c ?_ | refine' VF.y_op ?_ | refine' VF.y_un ?_ | refine' VF.y_nil ?_ | refine' VF.y_cons ?_ | refine' VF.y_cb ?_ | refine' VF.y_tup ?_ | refine' VF.y_lst ?_ | refine' VF.y_lstO ?_ | refine' VF.y_B ?_ | refine' VF.y_bl ?_ | refine' VF.y_and ?_ | refine' VF.y_or ?_ | refine' VF.y_not ?_ | refine' VF.y_andV ?_ | refine' VF.y_orV ?_ | refine' VF.y_notV ?_ | refine' VF.y_if ?_ | refine' VF.y_sl ?_ | refine' VF.y_P0 ?_ | refine' VF.y_P1 ?_ | refine' VF.y_int ?_ | refine' VF.y_chain ?_ | refine' VF.y_call ?_ | refine' VF.y_meth ?_ | refine' VF.y_fld ?_ | refine' VF.y_OL ?_ | refine' VF.y_lc ?_ | refine' VF.y_yes ?_ | refine' VF.y_name ?_ | refine' VF.y_gnil ?_ | refine' VF.y_gcons ?_ | refine' VF.y_rng1 ?_ | refine' VF.y_zip ?_ | refine' VF.y_zipL ?_ | refine' VF.y_iL ?_ | refine' VF.y_iT ?_ | refine' VF.y_tru (b := true) ?_ | refine' VF.y_listO ?_ | refine' VF.y_listO1 ?_ | refine' VF.y_listO2 ?_ | refine' VF.y_own2 ?_ | refine' VF.y_own2N ?_ | refine' VF.y_own2b ?_ | refine' VF.y_addI ?_ | refine' VF.y_I0 ?_ | refine' VF.y_IB ?_ | refine' VF.y_neg ?_ | refine' VF.y_slL ?_ | refine' VF.y_slT ?_ | refine' VF.y_lenL ?_ | refine' VF.y_lenT ?_ | refine' VF.y_listL ?_ | refine' VF.y_listT ?_ | refine' VF.y_tupL ?_ | refine' VF.y_tupT ?_ | refine' VF.y_intI ?_ | refine' VF.y_abs ?_ | refine' VF.y_max ?_ | refine' VF.y_min ?_ | refine' VF.y_eqI ?_ | refine' VF.y_neI ?_ | refine' VF.y_eqS ?_ | refine' VF.y_neS ?_ | refine' VF.y_eqB ?_ | refine' VF.y_neB ?_ | refine' BF.x_iteY ?_ | refine' BF.x_iteNo ?_)) | (first | ((with_reducible apply VF.y_nx); ((first | (simp only [List.set_cons_succ, List.set_cons_zero]; done) | (simp only [List.set_cons_succ, List.set_cons_zero]; rfl) | rfl))) | ((with_reducible apply VF.y_nxG); ((first | (simp only [List.set_cons_succ, List.set_cons_zero]; done) | (simp only [List.set_cons_succ, List.set_cons_zero]; rfl) | rfl)))) | (first | ((with_reducible apply VF.y_var); (with_unfolding_all rfl)) | ((with_reducible apply VF.y_varF); (with_unfolding_all rfl)) | ((with_reducible apply VF.y_varO); (with_unfolding_all rfl)) | ((with_reducible apply VF.y_ixL); (with_unfolding_all rfl)) | ((with_reducible apply VF.y_ixT); (with_unfolding_all rfl)) | ((with_reducible apply VF.y_gtup); (with_unfolding_all rfl)) | ((with_reducible apply VF.y_len1); (simp only [List.length_cons, List.length_nil]; omega)) | ((with_reducible apply VF.y_I); ((first | ((with_reducible refine BF.cpow_of ?_ ?_ ?_ ?_) <;> omega) | ((with_reducible refine BF.cmul_of ?_ ?_ ?_ ?_) <;> omega) | ((with_reducible refine BF.cdiv_of ?_ ?_) <;> omega) | (show (0 : Int) < _; omega)))) | ((with_reducible apply VF.y_rng1b); omega; omega) | ((with_reducible apply VF.y_lenO); (with_unfolding_all rfl)) | ((with_reducible apply VF.y_lenD); (with_unfolding_all rfl)) | ((with_reducible apply VF.y_ixVO); (with_unfolding_all rfl)) | ((with_reducible apply VF.y_ixVL); (with_unfolding_all rfl)) | ((with_reducible apply VF.y_app); (with_unfolding_all rfl)) | ((with_reducible apply VF.y_ins); (with_unfolding_all rfl)) | ((with_reducible apply VF.y_setI1); (with_unfolding_all rfl)) | ((with_reducible apply VF.y_fld2); (assumption); (with_unfolding_all rfl)) | ((with_reducible apply VF.y_noOwn); (with_unfolding_all rfl)) | ((with_reducible apply VF.y_wipe); (with_unfolding_all rfl)) | ((with_reducible apply VF.y_acc); (assumption)) | ((with_reducible apply VF.y_tru1); (with_unfolding_all rfl))) | (first | with_reducible refine' BF.x_iteT (by with_unfolding_all rfl) ?_ | with_reducible refine' BF.x_iteF (by with_unfolding_all rfl) ?_ | with_reducible refine' BF.x_iteT (decide_eq_true rfl) ?_)))
/-! ## Comprehensions over told lists; what is compared -/
namespace VF
open PySem PySem.Spec PyProof.Rows L2
section
variable {τ : ST} {n : Int} {QA : List DV → ST → Int → Prop} {t : WT} {g : WG} {we : WE} {ds : List DV} {α β : Type}
theorem y_lcA {vs : List Nat} (as : List α) (gD : α → DV) (f : α → DV) (e : ds = as.map gD) (hl : as.length ≤ 1000000) (hs : ∀ (i : Nat) a acc (R : List DV → Int → Prop), as[i]? = some a → acc.length < 1000000 → R (acc ++ [f a]) n → g (gD a) (wipeT τ vs) fun τ1 => t τ1 n fun b τ2 n2 => wipeT τ2 vs = wipeT τ vs ∧
    if b = true then we τ2 n2 fun y τ3 n3 => wipeT τ3 vs = wipeT τ vs ∧ acc.length < 1000000 ∧ R (acc ++ [y]) n3 else R acc n2) (k : QA (as.map f) τ n) : wLcGo g t we vs ds τ n QA := by
  subst e
  refine ⟨fun i acc n' => n' = n ∧ acc = (as.take i).map f, ⟨rfl, rfl⟩, fun i d acc n' hd ⟨e1, e2⟩ => ?_, fun acc n' ⟨e1, e2⟩ => ?_⟩
  · subst e1
    rw [List.getElem?_map] at hd
    obtain ⟨a, ha, rfl⟩ := Option.map_eq_some_iff.mp hd
    have hi : i < as.length := (List.getElem?_eq_some_iff.mp ha).1
    have hacc : acc.length < 1000000 := by rw [e2, List.length_map, List.length_take]; omega
    refine hs i a acc (fun a m => m = n' ∧ a = (as.take (i + 1)).map f) ha hacc ⟨rfl, ?_⟩
    rw [e2, List.take_succ, ha, List.map_append]
    rfl
  · subst e1
    rw [List.length_map, List.take_length] at e2
    rw [e2]
    exact k
theorem y_lcAF {vs : List Nat} (as : List α) (gD : α → DV) (p : α → Bool) (f : α → DV) (e : ds = as.map gD) (hl : as.length ≤ 1000000) (hs : ∀ (i : Nat) a acc (R : List DV → Int → Prop), as[i]? = some a → acc.length < 1000000 → (p a = true → R (acc ++ [f a]) n) → (p a = false → R acc n) → g (gD a) (wipeT τ vs) fun τ1 => t τ1 n fun b τ2 n2 => wipeT τ2 vs = wipeT τ vs ∧
    if b = true then we τ2 n2 fun y τ3 n3 => wipeT τ3 vs = wipeT τ vs ∧ acc.length < 1000000 ∧ R (acc ++ [y]) n3 else R acc n2) (k : QA ((as.filter p).map f) τ n) : wLcGo g t we vs ds τ n QA := by
  subst e
  refine ⟨fun i acc n' => n' = n ∧ acc = ((as.take i).filter p).map f, ⟨rfl, rfl⟩, fun i d acc n' hd ⟨e1, e2⟩ => ?_, fun acc n' ⟨e1, e2⟩ => ?_⟩
  · subst e1
    rw [List.getElem?_map] at hd
    obtain ⟨a, ha, rfl⟩ := Option.map_eq_some_iff.mp hd
    have hi : i < as.length := (List.getElem?_eq_some_iff.mp ha).1
    have hacc : acc.length < 1000000 := by
      rw [e2, List.length_map]
      refine Nat.lt_of_le_of_lt (List.length_filter_le ..) ?_
      rw [List.length_take]
      omega
    refine hs i a acc (fun a m => m = n' ∧ a = ((as.take (i + 1)).filter p).map f) ha hacc (fun hp => ⟨rfl, ?_⟩) fun hp => ⟨rfl, ?_⟩
    · rw [e2, List.take_succ, ha, List.filter_append, List.map_append]
      simp [hp]
    · rw [e2, List.take_succ, ha, List.filter_append, List.map_append]
      simp [hp]
  · subst e1
    rw [List.length_map, List.take_length] at e2
    rw [e2]
    exact k
theorem zipD_map {as : List α} {bs : List β} {f : α → DV} {h : β → DV} : zipD (as.map f) (bs.map h) = (as.zip bs).map fun p => .tup [f p.1, h p.2] := by
  unfold zipD
  rw [List.zipWith_map, List.zip_eq_zipWith, List.map_zipWith]
theorem rngD_map {lo : Int} {k : Nat} : rngD lo k = (List.range k).map fun (i : Nat) => DV.int (lo + (i : Int)) := rfl
theorem toPyL_map {as : List α} {f : α → DV} {h : α → PyData} (e : ∀ a ∈ as, toPy (f a) = some (h a)) : toPyL (as.map f) = some (as.map h) := by
  induction as with
  | nil => rfl
  | cons a as ih =>
    rw [List.map_cons, List.map_cons]
    simp only [toPyL]
    rw [e a List.mem_cons_self, ih fun x hx => e x (List.mem_cons_of_mem _ hx)]
theorem toPy_lst {as : List α} {f : α → DV} {h : α → PyData} (e : ∀ a ∈ as, toPy (f a) = some (h a)) : toPy (.lst (as.map f)) = some (.list (as.map h)) := by
  simp only [toPy]
  rw [toPyL_map e]
  rfl
theorem eqvAll_ints (xs ys : List Int) : PyData.eqvAll (xs.map .int) (ys.map .int) = decide (xs = ys) := by
  induction xs generalizing ys with
  | nil => cases ys <;> simp [PyData.eqvAll]
  | cons x xs ih =>
    cases ys with
    | nil => simp [PyData.eqvAll]
    | cons y ys =>
      simp only [List.map_cons, PyData.eqvAll, PyData.eqv, ih, List.cons.injEq]
      have e : (x == y) = decide (x = y) := by by_cases h : x = y <;> simp [h]
      rw [Bool.decide_and, e]
/-- how deep, and that it can be laid -/
def Sh (k : Nat) (x : PyData) : Prop := x.canLay0 = true ∧ x.depth ≤ k
theorem Sh.int {k : Nat} {i : Int} : Sh k (.int i) := ⟨rfl, Nat.zero_le _⟩
theorem Sh.bool {k : Nat} {i : Bool} : Sh k (.bool i) := ⟨rfl, Nat.zero_le _⟩
theorem Sh.none {k : Nat} : Sh k .none := ⟨rfl, Nat.zero_le _⟩
theorem Sh.str {k : Nat} {z : Str} (h : (PyData.str z).canLay0 = true) : Sh k (.str z) := ⟨h, Nat.zero_le _⟩
theorem sh_all {k : Nat} {xs : List PyData} (h : ∀ x ∈ xs, Sh k x) : PyData.canLayAll0 xs = true ∧ PyData.depthAll xs ≤ k := by
  induction xs with
  | nil => exact ⟨rfl, Nat.zero_le _⟩
  | cons x xs ih =>
    obtain ⟨h1, h2⟩ := ih fun y hy => h y (List.mem_cons_of_mem _ hy)
    obtain ⟨k1, k2⟩ := h x List.mem_cons_self
    exact ⟨by simp [PyData.canLayAll0, h1, k1], by simp only [PyData.depthAll]; omega⟩
theorem Sh.list {k : Nat} {xs : List PyData} (h : ∀ x ∈ xs, Sh k x) : Sh (k + 1) (.list xs) := by
  obtain ⟨h1, h2⟩ := sh_all h
  exact ⟨by simpa [PyData.canLay0] using h1, by simp only [PyData.depth]; omega⟩
theorem Sh.tuple {k : Nat} {xs : List PyData} (h : ∀ x ∈ xs, Sh k x) : Sh (k + 1) (.tuple xs) := by
  obtain ⟨h1, h2⟩ := sh_all h
  exact ⟨by simpa [PyData.canLay0] using h1, by simp only [PyData.depth]; omega⟩
theorem Sh.ok {k : Nat} {x : PyData} (h : Sh k x) (l : k ≤ 64) : SeqAt.shaped x = true := by
  unfold SeqAt.shaped
  rw [h.1, Bool.true_and]
  exact decide_eq_true (Nat.le_trans h.2 l)
theorem eqvAll_nil (xs : List PyData) : PyData.eqvAll xs [] = xs.isEmpty := by cases xs <;> simp [PyData.eqvAll]
end
end VF
/-! ## Defs that return a new list of their own -/
namespace VF
open PySem PySem.Spec PyProof.Rows L2
/-- nothing but a table stands at p -/
def NewA (H : Hp) (p : Addr) : Prop := ∀ o, H p = some o → ∃ ps, o = .tbl ps
section
variable {K : PySem.W.Frag} {b p a : Addr} {M M' : List Addr} {H H' : Hp} {vs : List V} {O : Om}
theorem NewA.ne {o : HO} (hp : NewA H p) (h : H a = some o) (t : ∀ ps, o ≠ .tbl ps) : a ≠ p := fun z => by
  obtain ⟨ps, e⟩ := hp o (z ▸ h)
  exact t ps e
theorem LsM.freshT (h : LsM K M H a vs) (hp : NewA H p) : LsM K (p :: M) H a vs := ⟨h.1, fun z => (List.mem_cons.mp z).elim (hp.ne h.1 nofun) h.2⟩
theorem TsM.freshT (h : TsM K M H a vs) (hp : NewA H p) : TsM K (p :: M) H a vs := ⟨h.1, fun z H' => by
  rcases List.mem_cons.mp z with rfl | z
  · rcases h.1 with (q | ⟨o, q⟩) | q
    · exact absurd rfl (hp.ne q nofun)
    · exact absurd rfl (hp.ne q nofun)
    · exact .inr q
  · exact h.2 z H'⟩
mutual
theorem Dat.freshT (hp : NewA H p) : ∀ {v : V} {d : DV}, Dat K b M H v d → Dat K b (p :: M) H v d
  | _, _, .non => .non
  | _, _, .bl x => .bl x
  | _, _, .int i => .int i
  | _, _, .str x => .str x
  | _, _, .lst h l => .lst (h.freshT hp) (DatL.freshT hp l)
  | _, _, .tup h l => .tup (h.freshT hp) (DatL.freshT hp l)
  | _, _, .tupz h d n l => .tupz h d (fun q => (List.mem_cons.mp q).elim (hp.ne h nofun) n) (DatL.freshT hp l)
  | _, _, .ins h n z l => .ins h (fun q => (List.mem_cons.mp q).elim (hp.ne h nofun) n) z (DatL.freshT hp l)
  | _, _, .exc h h2 n n2 z l => .exc h h2 (fun q => (List.mem_cons.mp q).elim (hp.ne h nofun) n) (fun q => (List.mem_cons.mp q).elim (hp.ne h2 nofun) n2) z (DatL.freshT hp l)
  | _, _, .bag => .bag
  | _, _, .ty n => .ty n
  | _, _, .cls c => .cls c
theorem DatL.freshT (hp : NewA H p) : ∀ {vs : List V} {ds : List DV}, DatL K b M H vs ds → DatL K b (p :: M) H vs ds
  | _, _, .nil => .nil
  | _, _, .cons h l => .cons (Dat.freshT hp h) (DatL.freshT hp l)
end
theorem GhOk.freshT {g : Gh} (h : GhOk K b O M H g) (hp : NewA H p) : GhOk K b O (p :: M) H g := by
  cases g with
  | d v x => exact Dat.freshT hp h
  | dl vs ds => exact DatL.freshT hp h
  | l a vs ds => exact ⟨h.1.freshT hp, DatL.freshT hp h.2⟩
  | t a vs ds => exact ⟨h.1.freshT hp, DatL.freshT hp h.2⟩
  | o j a vs ds => exact ⟨h.1, h.2.1, h.2.2.1, DatL.freshT hp h.2.2.2⟩
theorem SlOk.freshT {i : Nat} {v : V} {s : SV} (h : SlOk K b O M H i v s) (hp : NewA H p) : SlOk K b O (p :: M) H i v s := by
  cases s with
  | d x => exact Dat.freshT hp h
  | own xs =>
    obtain ⟨a, vs, e1, e2, e3, e4⟩ := h
    exact ⟨a, vs, e1, e2, e3, DatL.freshT hp e4⟩
  | self z c ns ds =>
    obtain ⟨dx, vs, e1, e2, e3, e4, e5⟩ := h
    exact ⟨dx, vs, e1, e2, e3, e4, DatL.freshT hp e5⟩
  | fix vs xs =>
    obtain ⟨a, e1, e2, e3⟩ := h
    exact ⟨a, e1, e2.freshT hp, DatL.freshT hp e3⟩
theorem Rel.freshT {W : Wc} {Γ : List Gh} {τ : ST} {n : Int} {σ : L2.St} (r : Rel K W Γ O [] τ n σ H) (hp : NewA H p) : Rel K W Γ O [p] τ n σ H :=
  ⟨r.len, r.few, fun i s hs => by
    obtain ⟨v, hv, k⟩ := r.slot i s hs
    exact ⟨v, hv, k.freshT hp⟩, fun g hg => (r.gh g hg).freshT hp, r.nd, r.own, r.ext, r.bag, r.bag0, r.tab, r.al, r.al0, r.mdb⟩
/-- what a def that returns a new list promises by data -/
def liftSpF (K : PySem.W.Frag) (Cs : Cf → Prop) (sp : DSp) : Sp := fun vs H Q E => ∃ (C : Cf) (M : List Addr) (n : Int) (ds : List DV) (Q' : DV → Int → Prop) (E' : XV), Cs C ∧ C.b ∈ M ∧ AlN M H ∧ C.B H n ∧ LamX.Tabs C.T H ∧ DatL K C.b M H vs ds ∧ sp ds n Q' E' ∧
  (∀ a us H' es n', Post C M H H' n' → NewA H a → a ∉ M → a ∉ C.bx → H' a = some (.lst us) → DatL K C.b (a :: M) H' us es → Q' (.lst es) n' → Q (.ref a) H') ∧
  (∀ c ns ws es dd H' n', Post C M H H' n' → H' dd = some (.xd (ns.zip ws)) → ns.length = ws.length → DatL K C.b M H' ws es → E' c ns es n' → E (.ref (He.ga K c)) (some dd) H')
theorem liftSpF.to {Cs : Cf → Prop} {sp : DSp} {vs : List V} {Q : VK} {E : XK} (h : liftSp K Cs sp vs H Q E) : liftSpF K Cs sp vs H Q E := by
  obtain ⟨C, M, n, ds, Q', E', hC, hb, al, bag, tab, hd, hsp, hQ, hE⟩ := h
  exact ⟨C, M, n, ds, Q', E', hC, hb, al, bag, tab, hd, hsp, fun a us H' es n' p _ nm _ h1 h2 q => hQ _ H' _ n' p (.lst (LsM.of h1 nm) (DatL.sub (fun x hx => List.mem_cons_of_mem _ hx) h2)) q, hE⟩
end
section
variable {K : PySem.W.Frag} {W : Wc} {X : Cx} {e : Expr} {wr : WA} {st : Stmt} {rest : List Stmt} {ws wt : WS} {Cs : Cf → Prop}
def wCallO (sp : DSp) (dds : List DV) (E' : XV) (wr : WA) : WA := fun τ n Q => wr τ n fun ds τ1 n1 => sp (ds ++ dds) n1 (fun d n2 => ∃ es, d = .lst es ∧ Q es τ1 n2) E'
theorem y_callO {sp : DSp} {dds : List DV} {E' : XV} {τ : ST} {n : Int} {Q : List DV → ST → Int → Prop} (k : wr τ n fun ds τ1 n1 => sp (ds ++ dds) n1 (fun d n2 => ∃ es, d = .lst es ∧ Q es τ1 n2) E') : wCallO sp dds E' wr τ n Q := k
theorem vo_callF {sp : DSp} {dvs : List V} {dds : List DV} {E' : XV} {E : XK} (hC : Cs W.toCf) (hE : ELinkG K W E' E) (h : PE X e (tCall (liftSpF K Cs sp) dvs E (liftA K W wr))) (hdv : ∀ b M H, DatL K b M H dvs dds) : PE X e (liftO K W (wCallO sp dds E' wr)) := by
  refine BF.PE.imp h fun σ H Q ⟨Γ, O, τ, n, Q', q, hw, k⟩ => ?_
  refine ⟨Γ, O, τ, n, _, q, hw, fun vs H1 ds O1 τ1 n1 q1 d1 hw1 => ?_⟩
  refine ⟨W.toCf, ad O1 ++ W.M0, n1, _, _, E', hC, List.mem_append_right _ W.bm, q1.al, q1.bag, q1.tab, DatL.app d1 (hdv _ _ _), hw1, fun a us H' es n' p na nm nx h1 h2 ⟨es', ee, hq⟩ => ?_, fun c ns ws es dd H' n' p h1 h2 h3 h4 => ?_⟩
  · cases ee
    have q2 := post_rel (q1.freshT na) p
    refine k a us H' es O1 τ1 n' q2 h1 nm ⟨fun o ho => ?_, fun z => nm (List.mem_append_right _ z), nx⟩ h2 hq
    by_cases hm : a ∈ W.Md
    · exact .inl hm
    · refine .inr (Classical.byContradiction fun ht => ?_)
      have t : ∀ ps, o ≠ .tbl ps := fun ps z => ht ⟨ps, z⟩
      obtain ⟨ps, z⟩ := na o (q1.ext a o hm ho t)
      exact t ps z
  · exact hE c ns ws es dd H' n' (q1.ext.tr (p.ey.sub fun x hx => by rw [List.mem_singleton.mp hx]; exact W.bd)) (fun x hx => p.al x (sub_M0 x hx)) p.bag p.tab h1 h2 (DatL.sub sub_M0 h3) h4
/-- statements, then the slot i is returned -/
def liftSR (K : PySem.W.Frag) (W : Wc) (i : Nat) (w : WS) : TS := fun D σ H => liftS K W w { D with nx := fun σ' H' => ∃ v, σ'[i]? = some (some v) ∧ D.rt v H' } σ H
theorem vsr_one {i : Nat} (h : PS X st (tRet (tVar i))) : PSs X [st] (liftSR K W i wNext) := pss_one (BF.PS.imp' h fun D σ H ⟨Γ, O, τ, n, D', q, hw, l⟩ => l.nx σ H τ n O q hw)
theorem vsr_cons {i : Nat} (h1 : PS X st (liftS K W ws)) (h2 : PSs X rest (liftSR K W i wt)) : PSs X (st :: rest) (liftSR K W i (wSeq ws wt)) := PSs.imp (pss_cons h1 h2) fun D σ H ⟨Γ, O, τ, n, D', q, hw, l⟩ =>
  ⟨Γ, O, τ, n, _, q, hw, ⟨fun σ' H' τ' n' O' q' hq => ⟨Γ, O', τ', n', D', q', hq, l⟩, l.bk, l.ct, l.rt⟩⟩
theorem v_okF {P : Program} {w : World} {mg : Str → Option Value} {base : Heap} {sp : DSp} {x qual : Str} {params : Arguments} {body : List Stmt} {scope : Scope} {dvs : List V} {kws : List (Str × V)} {f : Addr} {fd : FuncData} {N ps : List Str} {k : Nat}
    (F : FunD K x qual params body scope dvs kws f fd) (S : FnScope N ps scope) (hN : N.length < 1000000) (hp : ps.length ≤ N.length) (hlen : ∀ ds n Q E, sp ds n Q E → ds.length = ps.length) (i : Nat)
    (hbody : ∀ (cdv : Value) (A : Around) (outer : List Env) (s : Shared) (H : Hp) (W : Wc) (ds : List DV) (n : Int) (Q' : DV → Int → Prop), Cs W.toCf → ELink K W → Room k (A.deeper (envOfC qual scope s.heap.objs.size f cdv)) → sp ds n Q' W.E' →
      ∃ wd, PSs (cxOf (L2.CX P w) P w K mg base N qual scope f cdv A outer s H W.E) body (liftSR K W i wd) ∧ wd { nx := fun τ n => ∃ xs, τ[i]? = some (some (.own xs)) ∧ Q' (.lst xs) n, rt := fun _ _ => False } (startT N ds) n) : FnOk P w K mg base (L2.CX P w) (k + 1) f fd ps (liftSpF K Cs sp) := by
  refine F.ok S (fun vs H Q E h => ?_) (fun cdv A outer s H vs Q E hr h => ?_)
  · obtain ⟨C, M, n, ds, Q', E', hC, hb, al, bag, tab, hd, hsp, hQ, hE⟩ := h
    rw [hd.length]
    exact hlen _ _ _ _ hsp
  · obtain ⟨C, M, n, ds, Q', E', hC, hb, al, bag, tab, hd, hsp, hQ, hE⟩ := h
    have hl := hlen _ _ _ _ hsp
    have hv : vs.length = ps.length := by rw [hd.length]; exact hl
    obtain ⟨wd, h1, h2⟩ := hbody cdv A outer s H ⟨C, [C.b], M, H, hb, List.mem_singleton.mpr rfl, E', E⟩ ds n Q' hC (fun c ns ws es dd H' n' ey al' bag' tab' h1 h2 h3 h4 => hE c ns ws es dd H' n' ⟨ey, al', bag', tab'⟩ h1 h2 h3 h4) hr hsp
    refine ⟨_, h1, [], [], _, n, _, start_rel hN (by omega) hb al bag tab hd E' E, h2, fun σ' H' τ' n' O' q ⟨xs, hx, hq⟩ => ?_, fun _ _ _ _ _ _ h => h.elim, fun _ _ _ _ _ _ h => h.elim, fun v H' d n' r hq => hq.elim⟩
    obtain ⟨v, hv, a, us, e1, e2, e3, e4⟩ := q.slot i _ hx
    subst e1
    obtain ⟨o1, o2, o3⟩ := q.own _ e2
    refine ⟨_, hv, hQ a us H' xs n' ⟨q.ext, fun x hx => q.al x (List.mem_append_right _ hx), q.bag, q.tab⟩ (fun o ho => ?_) o2 o3 e3 (DatL.sub (fun x hx => ?_) e4) hq⟩
    · rcases o1 o ho with z | z
      · exact absurd (by rw [List.mem_singleton.mp z]; exact hb) o2
      · exact z
    · rcases List.mem_cons.mp hx with rfl | hx
      · exact List.mem_append_left _ (List.mem_map.mpr ⟨_, e2, rfl⟩)
      · exact List.mem_append_right _ hx
end
end VF
/-! ## isinstance by data -/
namespace VF
open PySem PySem.Spec PyProof.Rows L2
section
variable {K : PySem.W.Frag} {X : Cx} {b : Addr} {M : List Addr} {H : Hp} {n : Int} {P : DP}
/-- isinstance(x, (c1, c2, ..)), the classes in any tuple -/
def rIsiS (K : PySem.W.Frag) : List V → Hp → VK → Prop := fun xs H Q => ∃ (x : V) (tp : Addr) (cs : List V) (t : Value) (us : List Value) (b : Bool), xs = [x, .ref tp] ∧ SqT K H tp cs ∧ Paired ClsV cs us ∧ TyX K H x t ∧ PySem.W.kitAny K t us = some b ∧ Q (.bl b) H
theorem call_isiS (K : PySem.W.Frag) (h : X.K = K := by rfl) : CallR X (.builtin "isinstance") (rIsiS K) := by
  subst h
  intro pins s σ H xs us Q I r h
  obtain ⟨x, tp, cs, t, ws, b, rfl, hT, k, ty, e, q⟩ := h
  obtain ⟨u1, u2, rfl, r1, r2⟩ := vals2 r
  cases (show u2 = Value.ref tp from r2)
  obtain ⟨P, Z, p, hx⟩ := kit_of I r1 ty
  obtain ⟨its, rv, ⟨o, h1, h2, n, h3⟩, hz⟩ := I.tuple hT
  have e3 := ClsV.all k rv
  subst e3
  obtain ⟨oc, od, dt, sl⟩ := o
  simp only at h2 h3
  subst h2 h3
  exact PySem.W.kia_tup Z I.kIn p h1 e hx fun tk => ⟨.bl b, H, I.tok tk, rfl, q⟩
def tyD : DV → Option String
  | .non => some "NoneType" | .bl _ => some "bool" | .int _ => some "int" | .str _ => some "str" | .lst _ => some "list" | .tup _ => some "tuple" | _ => none
theorem Dat.tyX {v : V} {d : DV} {a : String} (h : Dat K b M H v d) (e : tyD d = some a) : TyX K H v (.type a) := by
  cases h with
  | non => cases e; exact .base .non
  | bl b => cases e; exact .base (.bl b)
  | int i => cases e; exact .base (.int i)
  | str x => cases e; exact .base (.str x)
  | lst h _ => cases e; exact BF.ty_sqL (SqL.of h.1)
  | tup h _ => cases e; exact BF.ty_sqT h.1
  | _ => cases e
/-- the types' names of a tuple of types -/
def tysD : List DV → Option (List String)
  | [] => some []
  | .ty t :: r => (tysD r).map (t :: ·)
  | _ => none
def kitAll (a : String) : List String → Option Bool
  | [] => some false
  | t :: r => match kitB a t with
    | some true => some true
    | some false => kitAll a r
    | none => none
theorem kitAll_ok {a : String} : ∀ {ts : List String} {x : Bool}, kitAll a ts = some x → PySem.W.kitAny K (.type a) (ts.map Value.type) = some x
  | [], x, e => by cases e; exact kitAny_nil
  | t :: r, x, e => by
    simp only [kitAll] at e
    cases h : kitB a t with
    | none => rw [h] at e; cases e
    | some y =>
      rw [h] at e
      refine kitAny_cons (b := y) (kit_ty h) (fun ey => ?_) fun ey => ?_
      · subst ey; exact kitAll_ok e
      · subst ey; cases e; rfl
theorem tysD_ok : ∀ {vs : List V} {ds : List DV} {ts : List String}, DatL K b M H vs ds → tysD ds = some ts → Paired ClsV vs (ts.map Value.type)
  | _, _, _, .nil, e => by cases e; exact .nil
  | _, _, _, .cons (d := d) h l, e => by
    cases h with
    | ty t =>
      simp only [tysD] at e
      obtain ⟨r, hr, e⟩ := Option.map_eq_some_iff.mp e
      subst e
      exact .cons (.ty t) (tysD_ok l hr)
    | _ => cases e
def wIsi : List DV → DP → Prop
  | [d, .ty t], Q => ∃ a r, tyD d = some a ∧ kitB a t = some r ∧ Q (.bl r)
  | _, _ => False
def wIsiT : List DV → DP → Prop
  | [d, .tup cs], Q => ∃ a ts r, tyD d = some a ∧ tysD cs = some ts ∧ kitAll a ts = some r ∧ Q (.bl r)
  | _, _ => False
theorem d_isi : DCall K (rIsi K) wIsi := fun b M H xs ds Q' Q al hd hw k => by
  cases hd with
  | nil => exact hw.elim
  | cons h1 hd => cases hd with
    | nil => exact hw.elim
    | cons h2 hd => cases hd with
      | cons _ _ => cases h2 <;> exact hw.elim
      | nil =>
        cases h2 with
        | ty t =>
          obtain ⟨a, r, e1, e2, hq⟩ := hw
          exact BF.x_isi (h1.tyX e1) e2 (k _ H _ (BF.Ex.refl H) (.bl r) hq)
        | _ => exact hw.elim
theorem d_isiT : DCall K (rIsiS K) wIsiT := fun b M H xs ds Q' Q al hd hw k => by
  cases hd with
  | nil => exact hw.elim
  | cons h1 hd => cases hd with
    | nil => exact hw.elim
    | cons h2 hd => cases hd with
      | cons _ _ => cases h2 <;> exact hw.elim
      | nil =>
        cases h2 with
        | tup h l =>
          obtain ⟨a, ts, r, e1, e2, e3, hq⟩ := hw
          exact ⟨_, _, _, _, _, r, rfl, h.1, tysD_ok l e2, h1.tyX e1, kitAll_ok e3, k _ H _ (BF.Ex.refl H) (.bl r) hq⟩
        | _ => exact hw.elim
theorem y_isi {d : DV} {t a : String} {r : Bool} (e1 : tyD d = some a) (e2 : kitB a t = some r) (k : P (.bl r)) : wIsi [d, .ty t] P := ⟨a, r, e1, e2, k⟩
theorem y_isiT {d : DV} {cs : List DV} {ts : List String} {a : String} {r : Bool} (e1 : tyD d = some a) (e2 : tysD cs = some ts) (e3 : kitAll a ts = some r) (k : P (.bl r)) : wIsiT [d, .tup cs] P := ⟨a, ts, r, e1, e2, e3, k⟩
end
end VF
/-! ## in, by data -/
namespace VF
open PySem PySem.Spec PyProof.Rows L2
section
variable {K : PySem.W.Frag} {X : Cx} {b : Addr} {M : List Addr} {H : Hp} {P : DP}
def flD : DV → Option V
  | .non => some .non | .bl x => some (.bl x) | .int i => some (.int i) | .str x => some (.str x) | _ => none
def flL : List DV → Option (List V)
  | [] => some []
  | d :: r => match flD d, flL r with
    | some v, some vs => some (v :: vs)
    | _, _ => none
theorem flD_ok {v u : V} {d : DV} (h : Dat K b M H v d) (e : flD d = some u) : v = u ∧ flatV v = true := by
  cases h <;> first | (cases e; exact ⟨rfl, rfl⟩) | cases e
theorem flL_ok : ∀ {vs us : List V} {ds : List DV}, DatL K b M H vs ds → flL ds = some us → vs = us ∧ vs.all flatV = true
  | _, _, _, .nil, e => by cases e; exact ⟨rfl, rfl⟩
  | _, _, _, .cons (d := d) (ds := ds) h l, e => by
    simp only [flL] at e
    cases h1 : flD d with
    | none => rw [h1] at e; cases e
    | some v =>
      cases h2 : flL ds with
      | none => rw [h1, h2] at e; cases e
      | some vs =>
        rw [h1, h2] at e
        cases e
        obtain ⟨a1, a2⟩ := flD_ok h h1
        obtain ⟨b1, b2⟩ := flL_ok l h2
        exact ⟨by rw [a1, b1], by rw [List.all_cons, a2, b2]; rfl⟩
theorem op_inU (K : PySem.W.Frag) (hu : X.A.units + 65 < cLine) (h : X.K = K := by rfl) : OpR X (compareOp .In) (fun x y H Q => rIn K false x y H Q ∨ rInD K x y H Q) := h ▸ op_in_seq.or (op_inD hu)
theorem op_notInU (K : PySem.W.Frag) (hu : X.A.units + 65 < cLine) (h : X.K = K := by rfl) : OpR X (compareOp .NotIn) (fun x y H Q => rIn K true x y H Q ∨ rNotInD K x y H Q) := h ▸ op_notIn_seq.or (op_notInD hu)
/-- flat items of a list or tuple; or any data in a list -/
def wIn (neg : Bool) (d e : DV) (P : DP) : Prop := (∃ xs v vs, (e = .lst xs ∨ e = .tup xs) ∧ flD d = some v ∧ flL xs = some vs ∧ P (.bl (if neg then !inV v vs else inV v vs))) ∨
  ∃ x ys, toPy d = some x ∧ toPy e = some (.list ys) ∧ SeqAt.shaped x = true ∧ SeqAt.shaped (.list ys) = true ∧ P (.bl (if neg then !(ys.any fun z => PyData.eqv z x) else ys.any fun z => PyData.eqv z x))
theorem in_flat {neg : Bool} {x y : V} {d e : DV} {xs : List DV} {v : V} {vs : List V} {Q : VK} (hx : Dat K b M H x d) (hy : Dat K b M H y e) (he : e = .lst xs ∨ e = .tup xs) (h1 : flD d = some v) (h2 : flL xs = some vs) (k : Q (.bl (if neg then !inV v vs else inV v vs)) H) : rIn K neg x y H Q := by
  obtain ⟨rfl, f1⟩ := flD_ok hx h1
  rcases he with rfl | rfl
  · cases hy with
    | lst h l =>
      obtain ⟨rfl, f2⟩ := flL_ok l h2
      exact ⟨_, _, rfl, .inl (SqL.of h.1), f1, f2, k⟩
  · cases hy with
    | tup h l =>
      obtain ⟨rfl, f2⟩ := flL_ok l h2
      exact ⟨_, _, rfl, .inr h.1, f1, f2, k⟩
theorem d_in : DOp K (fun x y H Q => rIn K false x y H Q ∨ rInD K x y H Q) (wIn false) := fun b M H x y d e Q' Q al hx hy hw k => by
  rcases hw with ⟨xs, v, vs, he, h1, h2, hq⟩ | ⟨u, ys, h1, h2, s1, s2, hq⟩
  · exact .inl (in_flat hx hy he h1 h2 (k _ H _ (BF.Ex.refl H) (.bl _) hq))
  · exact .inr ⟨u, ys, dp_of hx h1, dp_of hy h2, s1, s2, k _ H _ (BF.Ex.refl H) (.bl _) hq⟩
theorem d_notin : DOp K (fun x y H Q => rIn K true x y H Q ∨ rNotInD K x y H Q) (wIn true) := fun b M H x y d e Q' Q al hx hy hw k => by
  rcases hw with ⟨xs, v, vs, he, h1, h2, hq⟩ | ⟨u, ys, h1, h2, s1, s2, hq⟩
  · exact .inl (in_flat hx hy he h1 h2 (k _ H _ (BF.Ex.refl H) (.bl _) hq))
  · exact .inr ⟨u, ys, dp_of hx h1, dp_of hy h2, s1, s2, k _ H _ (BF.Ex.refl H) (.bl _) hq⟩
theorem y_inF {neg : Bool} {d e : DV} {xs : List DV} {v : V} {vs : List V} (he : e = .lst xs ∨ e = .tup xs) (h1 : flD d = some v) (h2 : flL xs = some vs) (k : P (.bl (if neg then !inV v vs else inV v vs))) : wIn neg d e P := .inl ⟨xs, v, vs, he, h1, h2, k⟩
theorem y_inD {neg : Bool} {d e : DV} {x : PyData} {ys : List PyData} (h1 : toPy d = some x) (h2 : toPy e = some (.list ys)) (s1 : SeqAt.shaped x = true) (s2 : SeqAt.shaped (.list ys) = true) (k : P (.bl (if neg then !(ys.any fun z => PyData.eqv z x) else ys.any fun z => PyData.eqv z x))) : wIn neg d e P := .inr ⟨x, ys, h1, h2, s1, s2, k⟩
end
end VF
/-! ## enumerate and reversed by data -/
namespace VF
open PySem PySem.Spec PyProof.Rows L2
section
variable {K : PySem.W.Frag} {W : Wc} {X : Cx} {e tg : Expr} {wr : WA} {we : WE}
def enumD (xs : List DV) : List DV := xs.zipIdx.map fun p => .tup [.int (p.2 : Nat), p.1]
theorem enumD_len {xs : List DV} : (enumD xs).length = xs.length := by simp [enumD]
theorem enumD_at {xs : List DV} {i : Nat} {d : DV} (h : xs[i]? = some d) : (enumD xs)[i]? = some (.tup [.int (i : Nat), d]) := by
  unfold enumD
  rw [List.getElem?_map, List.getElem?_zipIdx, h]
  simp
def wEnum (wr : WA) : WA := fun τ n Q => wr τ n fun ds τ1 n1 => ∃ xs, ds = [.lst xs] ∧ Q (enumD xs) τ1 n1
theorem vi_enum (h : PI X tg e (iEnum K (liftA K W wr))) : PI X tg e (liftI K W (wEnum wr)) := PI.imp h fun σ H R ⟨Γ, O, τ, n, Q', q, hw, k⟩ => ⟨Γ, O, τ, n, _, q, hw, fun vs H1 ds O1 τ1 n1 q1 d1 ⟨xs, ed, hq⟩ => by
  subst ed
  cases d1 with
  | cons h1 h2 =>
    cases h2
    cases h1 with
    | @lst a us _ a1 a2 =>
      refine ⟨a, us, rfl, SqL.of a1.1, k _ H1 [.l a us xs] _ O1 τ1 n1 (q1.gcons ⟨a1, a2⟩) ⟨_, _, by rw [enumD_len, ← a2.length]; exact walk_enum, fun O M H g => SqL.of (g _ List.mem_cons_self).1.1, fun O M H i x H' g al hi y => ?_⟩ hq⟩
      obtain ⟨T, x, z, rfl, y2, y3, y4, y5⟩ := y
      obtain ⟨d, e1, e2⟩ := (g (.l a us xs) (by simp)).2.get y5
      cases y4
      obtain ⟨p1, p2⟩ := pair_dat al y2 y3 (.int _) e2
      exact ⟨p1, _, enumD_at e1, p2⟩⟩
theorem walk_rt {a : Addr} {xs : List V} : Walk (RT.ItvT K a xs.length) xs.length (fun H => SqT K H a xs) (fun i H x H' => H' = H ∧ xs[xs.length - 1 - i]? = some x) :=
  ⟨fun i H hi h => ⟨hi, xs, _, h, List.getElem?_eq_getElem (by omega)⟩, fun H h => Nat.le_refl _, fun i H x H' hi h y => ⟨y.1, y.2 xs h⟩⟩
def wRevA (we : WE) : WA := fun τ n Q => we τ n fun d τ1 n1 => ∃ ds, (d = .lst ds ∨ d = .tup ds) ∧ Q ds.reverse τ1 n1
theorem rev_at {ds : List DV} {n i : Nat} (e : n = ds.length) (hi : i < n) : ds.reverse[i]? = ds[n - 1 - i]? := by
  subst e
  rw [List.getElem?_reverse hi]
theorem vi_revA (hK : X.K = K) (h : PI X tg e (RT.iRevA X.K (liftE K W we))) : PI X tg e (liftI K W (wRevA we)) := by
  subst hK
  refine PI.imp h fun σ H R ⟨Γ, O, τ, n, Q', q, hw, k⟩ => ⟨Γ, O, τ, n, _, q, hw, fun v H1 d O1 τ1 n1 q1 d1 ⟨ds, ed, hq⟩ => ?_⟩
  rcases ed with ed | ed
  · subst ed
    cases d1 with
    | @lst a vs _ h1 h2 =>
      refine ⟨a, vs, rfl, .inl ⟨SqL.of h1.1, k _ H1 [.l a vs ds] ds.reverse O1 τ1 n1 (q1.gcons ⟨h1, h2⟩) ⟨_, _, by rw [List.length_reverse, ← h2.length]; exact walk_rev, fun O M H g => SqL.of (g _ List.mem_cons_self).1.1, fun O M H i x H' g _ hi y => ?_⟩ hq⟩⟩
      obtain ⟨rfl, y2⟩ := y
      obtain ⟨d, e1, e2⟩ := (g _ List.mem_cons_self).2.get y2
      exact ⟨BF.Ex.refl _, d, by rw [rev_at h2.length (by rw [h2.length]; simpa using hi)]; exact e1, e2⟩
  · subst ed
    cases d1 with
    | @tup a vs _ h1 h2 =>
      refine ⟨a, vs, rfl, .inr ⟨h1.1, k _ H1 [.t a vs ds] ds.reverse O1 τ1 n1 (q1.gcons ⟨h1, h2⟩) ⟨_, _, by rw [List.length_reverse, ← h2.length]; exact walk_rt, fun O M H g => (g _ List.mem_cons_self).1.1, fun O M H i x H' g _ hi y => ?_⟩ hq⟩⟩
      obtain ⟨rfl, y2⟩ := y
      obtain ⟨d, e1, e2⟩ := (g _ List.mem_cons_self).2.get y2
      exact ⟨BF.Ex.refl _, d, by rw [rev_at h2.length (by rw [h2.length]; simpa using hi)]; exact e1, e2⟩
theorem y_enum {τ : ST} {n : Int} {Q : List DV → ST → Int → Prop} (k : wr τ n fun ds τ1 n1 => ∃ xs, ds = [.lst xs] ∧ Q (enumD xs) τ1 n1) : wEnum wr τ n Q := k
theorem y_revA {τ : ST} {n : Int} {Q : List DV → ST → Int → Prop} (k : we τ n fun d τ1 n1 => ∃ ds, (d = .lst ds ∨ d = .tup ds) ∧ Q ds.reverse τ1 n1) : wRevA we τ n Q := k
end
end VF
/-! ## Exceptions as values -/
namespace BF
open PySem PySem.Spec PyProof.Rows L2
/-- C(e, ..) as a value: a new exception object, its own __init__ keeping sp -/
def tMkV (C : Addr) (sp : Sp) (dvs : List V) (ta : TA) : TE := fun σ H Q => ta σ H fun vs H1 => vs.length ≤ 1000 ∧ ∀ a, H1 a = none → sp (.ref a :: (vs ++ dvs)) (upd H1 a (exo a C none)) (fun v H2 => v = .non ∧ Q (.ref a) H2) (fun _ _ _ => False)
section
variable {X : Cx} {e : Expr} {es : List Expr} {ta : TA} {p pos : Pos}
theorem pe_oexV {CX : CXT} {x : Str} {C fI : Addr} {k : Nat} {fd : FuncData} {ps : List Str} {sp : Sp} {ds : List Value} {dvs : List V} (T : OexC X.K C) (iC : PySem.W.findIn X.K (.ref C) "__init__" = some (some (.ref fI))) (tI : PySem.W.typeIn X.K (.ref fI) = some (.type "function"))
    (F1 : FnOk X.prog X.w X.K X.mg X.base CX k fI fd ps sp) (hr : Room (k + 1) X.A) (hb : Binds X.K fd ps ds) (hd : Vals dvs ds) (hx : Passes CX X (fun _ _ _ => False)) (hg : Gl X x) (hm : X.mg x = some (.ref C)) (ha : PA X (e :: es) ta)
    (hdb : (x == ("__debug__" : Str)) = false := by decide) (he : starEach (e :: es) X.env = (false, eval e X.env) :: starEach es X.env := by rfl) (hpl : (backTo pos (starEach es X.env)).any (·.1) = false := by rfl) :
    PE X (.Call (.Name x p) (e :: es) [] pos) (tMkV C sp dvs ta) := by
  refine ⟨fun pins s σ H Q I h => ?_⟩
  obtain ⟨nm, q, N, bs, bm, sn, sub, ab, col, dd, k0, k1, k2, k3, k5, hC, hbm⟩ := T.cls
  refine wpAny_Call_Name_kw (ld_glob I hg hm ?_ hdb)
  refine PySem.W.callWith_K (h₀ := X.base) I.ok.mod.kin T.kC (thn (ha.run pos pins s σ H _ I h) fun us s1 ⟨vs, H1, I1, r1, hz, q1⟩ => ⟨I1.kIn, ?_⟩) he hpl
  show wpAny _ _ (call (.ref C) us) _ _ _
  obtain ⟨hp, g, dr, tk, os⟩ := s1
  have hsz : hp.objs.size ≤ hp.objs.size + 1 := Nat.le_succ _
  have hn : H1 (hp.objs.size + 1) = none := I1.hok.fresh hsz
  have hq := q1 (hp.objs.size + 1) hn
  have kk : ∀ b o, hp.get? b = some o → ((hp.push (PySem.W.kdv_tup us)).push (PySem.HandSPX.excO C hp.objs.size)).get? b = some o := fun b o e => Heap.get?_push_of_some _ (Heap.get?_push_of_some _ e)
  have hget : ((hp.push (PySem.W.kdv_tup us)).push (PySem.HandSPX.excO C hp.objs.size)).get? (hp.objs.size + 1) = some (PySem.HandSPX.excO C hp.objs.size) := by heap_get
  have I2 : Inv X pins σ (upd H1 (hp.objs.size + 1) (exo (hp.objs.size + 1) C none)) ⟨(hp.push (PySem.W.kdv_tup us)).push (PySem.HandSPX.excO C hp.objs.size), g, dr, tk, os⟩ :=
    I1.laid (t' := tk) (a := hp.objs.size + 1) (o := exo (hp.objs.size + 1) C none) (h' := (hp.push (PySem.W.kdv_tup us)).push (PySem.HandSPX.excO C hp.objs.size)) kk hsz (exo_ok hget)
  have r2 : Vals (V.ref (hp.objs.size + 1) :: (vs ++ dvs)) (Value.ref (hp.objs.size + 1) :: (us ++ ds)) := .cons rfl (r1.append hd)
  have hl : (Value.ref (hp.objs.size + 1) :: us ++ ds).length = ps.length := by
    have e := r2.length
    rw [F1.len _ _ _ _ hq] at e
    exact e.symm
  have hus : us.length ≤ sizeLine := by
    rw [← Paired.length r1, sizeLine_eq]
    omega
  refine wpAny_call (PySem.HandSPX.call_own F.excBase_ValueError (fun Y => PySem.HandSPX.refsVE_contains Y bm hbm) (I1.kIn _ _ hC) (PySem.W.looks_findIn I1.kIn iC) (fun self => PySem.W.bind_fn I1.kIn self tI) hus
    (codeAny_mono (F1.run _ X.stack _ _ ⟨Value.ref (hp.objs.size + 1) :: us, []⟩ (Value.ref (hp.objs.size + 1) :: (us ++ ds)) _ _ (fun _ _ _ => False) (hr.make C us []) (I2.env0.make C us []) (hb _ (Value.ref (hp.objs.size + 1) :: us) I2.kIn hl) r2 hq) fun r s' hq' => ?_))
  cases r with
  | error er => exact hx pins σ _ _ er s' I2 hq'
  | ok fl =>
    cases fl with
    | ret u =>
      obtain ⟨z, H', I', rz, ez, qq⟩ := I2.after hq'
      subst ez
      exact ⟨rz, .ref (hp.objs.size + 1), H', I', rfl, qq⟩
    | next => exact False.elim hq'
    | brk => exact False.elim hq'
    | cont => exact False.elim hq'
end
end BF
/-! ## Instances made, by data -/
namespace VF
open PySem PySem.Spec PyProof.Rows L2
/-- what an __init__ is told (without self), and what its instance then holds -/
abbrev ISp := List DV → Int → (List Str → List DV → Int → Prop) → XV → Prop
section
variable {K : PySem.W.Frag}
def liftSpI (K : PySem.W.Frag) (Cs : Cf → Prop) (cl : Str) (sp : ISp) : Sp := fun vs H Q E => ∃ (C : Cf) (M : List Addr) (n : Int) (ds : List DV) (Q' : List Str → List DV → Int → Prop) (E' : XV) (x dx : Addr) (us : List V), vs = .ref x :: us ∧ Cs C ∧ C.b ∈ M ∧ x ∉ M ∧ x ∉ C.bx ∧ AlN M H ∧ C.B H n ∧ LamX.Tabs C.T H ∧
  DatL K C.b (x :: M) H us ds ∧ H x = some (.ins (He.ga K cl) dx []) ∧ sp ds n Q' E' ∧
  (∀ H' dx' ws ns es n', Ey [C.b, x] H H' → AlN M H' → C.B H' n' → LamX.Tabs C.T H' → H' x = some (.ins (He.ga K cl) dx' (ns.zip ws)) → ns.length = ws.length → DatL K C.b M H' ws es → Q' ns es n' → Q .non H') ∧
  (∀ c ns ws es dd H' n', Ey [C.b, x] H H' → AlN M H' → C.B H' n' → LamX.Tabs C.T H' → H' dd = some (.xd (ns.zip ws)) → ns.length = ws.length → DatL K C.b M H' ws es → E' c ns es n' → E (.ref (He.ga K c)) (some dd) H')
def startI (N : List Str) (z : Addr) (cl : Str) (ds : List DV) : ST := some (.self z cl [] []) :: (ds.map (fun d => some (.d d)) ++ List.replicate (N.length - (ds.length + 1)) none)
theorem v_okI {P : Program} {w : World} {mg : Str → Option Value} {base : Heap} {Cs : Cf → Prop} {sp : ISp} {cl x qual : Str} {params : Arguments} {body : List Stmt} {scope : Scope} {dvs : List V} {kws : List (Str × V)} {f : Addr} {fd : FuncData} {N ps : List Str} {k : Nat}
    (F : FunD K x qual params body scope dvs kws f fd) (S : FnScope N ps scope) (hN : N.length < 1000000) (hp : ps.length ≤ N.length) (hlen : ∀ ds n Q E, sp ds n Q E → ds.length + 1 = ps.length)
    (hbody : ∀ (cdv : Value) (A : Around) (outer : List Env) (s : Shared) (H : Hp) (W : Wc) (ds : List DV) (n : Int) (Q' : List Str → List DV → Int → Prop) (z : Addr), Cs W.toCf → ELink K W → Room k (A.deeper (envOfC qual scope s.heap.objs.size f cdv)) → sp ds n Q' W.E' →
      ∃ wd, PSs (cxOf (L2.CX P w) P w K mg base N qual scope f cdv A outer s H W.E) body (liftS K W wd) ∧ wd { nx := fun τ n => ∃ ns es, τ[0]? = some (some (.self z cl ns es)) ∧ Q' ns es n, rt := fun _ _ => False } (startI N z cl ds) n) : FnOk P w K mg base (L2.CX P w) (k + 1) f fd ps (liftSpI K Cs cl sp) := by
  refine F.ok S (fun vs H Q E h => ?_) (fun cdv A outer s H vs Q E hr h => ?_)
  · obtain ⟨C, M, n, ds, Q', E', x, dx, us, rfl, hC, hb, xm, xb, al, bag, tab, hd, hx, hsp, hQ, hE⟩ := h
    rw [List.length_cons, hd.length]
    exact hlen _ _ _ _ hsp
  · obtain ⟨C, M, n, ds, Q', E', x, dx, us, rfl, hC, hb, xm, xb, al, bag, tab, hd, hx, hsp, hQ, hE⟩ := h
    have hl := hlen _ _ _ _ hsp
    have e := hd.length
    obtain ⟨wd, h1, h2⟩ := hbody cdv A outer s H ⟨C, [C.b, x], M, H, hb, by simp, E', E⟩ ds n Q' x hC (fun c ns ws es dd H' n' ey al' bag' tab' h1 h2 h3 h4 => hE c ns ws es dd H' n' ey al' bag' tab' h1 h2 h3 h4) hr hsp
    refine ⟨_, h1, [], [(0, x)], _, n, _, ?_, h2, fun σ' H' τ' n' O' q ⟨ns, es, hx', hq⟩ => ?_, fun _ _ _ _ _ _ h => h.elim, fun _ _ _ _ _ _ h => h.elim, fun v H' d n' r hq => hq.elim⟩
    · refine ⟨by simp [startI, L2.start, e], by simp [startI]; omega, fun i s hs => ?_, nofun, by simp [ad], fun p hp => ?_, Ey.refl H, bag, ⟨n, bag⟩, tab, fun y hy => ?_, al, fun y hy => ?_⟩
      · cases i with
        | zero =>
          cases hs
          exact ⟨.ref x, rfl, dx, [], rfl, by simp, hx, rfl, .nil⟩
        | succ i =>
          unfold startI at hs
          rw [List.getElem?_cons_succ] at hs
          by_cases hi : i < ds.length
          · rw [List.getElem?_append_left (by simpa using hi), List.getElem?_map] at hs
            obtain ⟨d, hd', e'⟩ := Option.map_eq_some_iff.mp hs
            cases e'
            obtain ⟨v, hv, k⟩ := hd.at hd'
            refine ⟨v, ?_, k⟩
            unfold L2.start
            rw [List.map_cons, List.cons_append, List.getElem?_cons_succ, List.getElem?_append_left (by simpa [e] using hi), List.getElem?_map, hv]
            rfl
          · rw [List.getElem?_append_right (by simpa using hi), List.getElem?_replicate] at hs
            split at hs <;> cases hs
      · rw [List.mem_singleton.mp hp]
        exact ⟨fun o _ => .inl (by simp), xm, xb⟩
      · rcases List.mem_append.mp hy with hy | hy
        · rw [show y = x by simpa [ad] using hy]
          exact ⟨_, hx, .inr ⟨_, _, _, rfl⟩⟩
        · exact al y hy
      · rcases List.mem_cons.mp hy with rfl | hy
        · exact .inl rfl
        · rw [List.mem_singleton.mp hy]
          exact .inr xm
    · obtain ⟨v, hv, dx', ws, e1, e2, e3, e4, e5⟩ := q.slot 0 _ hx'
      exact hQ H' dx' ws ns es n' q.ext (fun y hy => q.al y (List.mem_append_right _ hy)) q.bag q.tab e3 e4 (DatL.sub (fun y hy => List.mem_append_right _ hy) e5) hq
variable {W : Wc} {X : Cx} {e : Expr} {wr : WA} {Cs : Cf → Prop}
def wMake (cl : Str) (sp : ISp) (dds : List DV) (E' : XV) (wr : WA) : WE := fun τ n Q => wr τ n fun ds τ1 n1 => sp (ds ++ dds) n1 (fun ns es n2 => Q (.ins cl ns es) τ1 n2) E'
theorem y_make {cl : Str} {sp : ISp} {dds : List DV} {E' : XV} {τ : ST} {n : Int} {Q : DV → ST → Int → Prop} (k : wr τ n fun ds τ1 n1 => sp (ds ++ dds) n1 (fun ns es n2 => Q (.ins cl ns es) τ1 n2) E') : wMake cl sp dds E' wr τ n Q := k
/-- behind what changes the bag and a new instance alone -/
theorem ey_new {b x : Addr} {H H1 H2 : Hp} (hx : H x = none) (ex : BF.Ex [] H H1) (ey : Ey [b, x] H1 H2) : Ey [b] H H2 := fun y o hy h t => ey y o (fun z => by
  rcases List.mem_cons.mp z with z | z
  · exact hy (by rw [z]; exact List.mem_singleton.mpr rfl)
  · rw [List.mem_singleton.mp z, hx] at h
    cases h) (ex _ _ (by simp) h) t
theorem ve_make {cl : Str} {sp : ISp} {dvs : List V} {dds : List DV} {E' : XV} {E : XK} (hC : Cs W.toCf) (hE : ELinkG K W E' E) (h : PE X e (BF.tMakeE (He.ga K cl) (liftSpI K Cs cl sp) dvs E (liftA K W wr))) (hdv : ∀ b M H, DatL K b M H dvs dds) : PE X e (liftE K W (wMake cl sp dds E' wr)) := by
  refine BF.PE.imp h fun σ H Q ⟨Γ, O, τ, n, Q', q, hw, k⟩ => ?_
  refine ⟨Γ, O, τ, n, _, q, hw, fun vs H1 ds O1 τ1 n1 q1 d1 hw1 => fun x dx H2 hx0 ex hx => ?_⟩
  have xm : x ∉ ad O1 ++ W.M0 := q1.al.out hx0
  have q2 := q1.ex ex
  refine ⟨W.toCf, ad O1 ++ W.M0, n1, ds ++ dds, _, E', x, dx, vs ++ dvs, rfl, hC, List.mem_append_right _ W.bm, xm, fun z => ?_, q2.al, q2.bag, q2.tab, DatL.ey (Ey.ex0 ex) (DatL.fresh hx0 (DatL.app d1 (hdv _ _ _))), hx, hw1, fun H3 dx' ws ns es n' ey al' bag' tab' h1 h2 h3 hq => ⟨rfl, ?_⟩, fun c ns ws es dd H3 n' ey al' bag' tab' h1 h2 h3 h4 => ?_⟩
  · obtain ⟨o, ho, _⟩ := W.Ba q1.bag x z
    rw [hx0] at ho
    cases ho
  · exact k (.ref x) H3 _ O1 τ1 n' (q1.step (ey_new hx0 ex ey) bag' tab' al') (.ins h1 xm h2 h3) hq
  · have e1 := ey_new hx0 ex ey
    exact hE c ns ws es dd H3 n' (q1.ext.tr (e1.sub fun y hy => by rw [List.mem_singleton.mp hy]; exact W.bd)) (fun y hy => al' y (sub_M0 y hy)) bag' tab' h1 h2 (DatL.sub sub_M0 h3) h4
end
end VF
/-! ## try with three named clauses -/
namespace BF
open PySem PySem.Spec PyProof.Rows L2
def wAs3 (K : PySem.W.Frag) (c c' c'' : Value) (i : Nat) (ts ts' ts'' : ClS) (D : Ends) : WX := fun cls d σ H =>
  ∃ b, PySem.W.exmOne K cls c = some b ∧ (b = true → ∀ a, H a = none → ts a cls d (unEnd i D) (σ.set i (some (.ref a))) H) ∧
    (b = false → ∃ b', PySem.W.exmOne K cls c' = some b' ∧ (b' = true → ∀ a, H a = none → ts' a cls d (unEnd i D) (σ.set i (some (.ref a))) H) ∧
      (b' = false → PySem.W.exmOne K cls c'' = some true ∧ ∀ a, H a = none → ts'' a cls d (unEnd i D) (σ.set i (some (.ref a))) H))
section
variable {X : Cx} {pins : List (Addr × Obj)} {σ : L2.St} {H : Hp} {D : Ends}
/-- try: body, except x as n: suite, except x' as n: suite', except x'' as n: suite'' -/
theorem ps_try_as3 {x x' x'' n : Str} {c c' c'' : Value} {i : Nat} {body suite suite' suite'' : List Stmt} {b₀ b₁ b₂ : Stmt} {np np' np'' pos pos1 pos2 pos3 : Pos} {tb : WX → TS} {ts ts' ts'' : ClS} (hs : X.stack = X.env :: X.outer) (hf : X.env.frame = some X.env.locals)
    (hN : X.N.Nodup) (hi : X.N[i]? = some n) (hln : X.env.kindOf n = some .local) (hc : Names X x c) (hc' : Names X x' c') (hc'' : Names X x'' c'')
    (hb : ∀ (W : WX) (pn : List (Addr × Obj)) (xe : Value → Shared → Prop), Takes (X.tr pn xe) W → PassesOwn (model X.prog X.w) X.A X.env xe → PSs (X.tr pn xe) body (tb W))
    (hsu : ∀ (a : Addr) (oe : Obj) (cls : Value) (d : Option Addr) (pn : List (Addr × Obj)), Zc cls d oe → (∃ vs, oe.data = .fields vs) → PSs (X.suite a ((a, oe) :: pn)) (b₀ :: suite) (ts a cls d))
    (hsu' : ∀ (a : Addr) (oe : Obj) (cls : Value) (d : Option Addr) (pn : List (Addr × Obj)), Zc cls d oe → (∃ vs, oe.data = .fields vs) → PSs (X.suite a ((a, oe) :: pn)) (b₁ :: suite') (ts' a cls d))
    (hsu'' : ∀ (a : Addr) (oe : Obj) (cls : Value) (d : Option Addr) (pn : List (Addr × Obj)), Zc cls d oe → (∃ vs, oe.data = .fields vs) → PSs (X.suite a ((a, oe) :: pn)) (b₂ :: suite'') (ts'' a cls d)) :
    PS X (.Try body [.ExceptHandler (some (.Name x np)) (some n) (b₀ :: suite) pos1, .ExceptHandler (some (.Name x' np')) (some n) (b₁ :: suite') pos2, .ExceptHandler (some (.Name x'' np'')) (some n) (b₂ :: suite'') pos3] [] [] pos) (fun D σ H => tb (wAs3 X.K c c' c'' i ts ts' ts'' D) D σ H) := by
  refine ⟨fun pins s σ H D I q => wpAny_Try_except ?_⟩
  refine wpAny_mono ((hb (wAs3 X.K c c' c'' i ts ts' ts'' D) (X.pn ++ pins) (fun e s₁ => wpAny (model X.prog X.w) X.A (noteFrame e X.env) (fun _ s₂ => wpAny (model X.prog X.w) X.A (setFlight e none) (fun _ s₃ =>
    wpAny (model X.prog X.w) X.A (handleBy e X.env [.ExceptHandler (some (.Name x np)) (some n) (b₀ :: suite) pos1, .ExceptHandler (some (.Name x' np')) (some n) (b₁ :: suite') pos2, .ExceptHandler (some (.Name x'' np'')) (some n) (b₂ :: suite'') pos3]) (SP X pins D) X.xe s₃) X.xe s₂) X.xe s₁) ?_ PassesOwn.looking).run [] s σ H D (I.toTry _) q) ?_ (fun _ _ r => r)
  · rintro u t ⟨a, B, sI, pins1, τ, G, cls, d, rfl, J, nb, up, sky, na, os, ag, b, hx, yes, no⟩
    have J := J.ofTry I.ok
    refine Sky.land (Z := Zc cls d) (B := B) (a := a) Zc.steady (by rw [I.ok.frames, hs]) hf (by rw [← hs]; exact sky) fun h f up' => ?_
    refine clause_as (t := t) hs hf hN hi hln hc hsu J nb f (up.trans up') na os ag hx (fun e => yes e a na) fun e => ?_
    obtain ⟨b', hx', yes', no'⟩ := no e
    refine clause_as (t := t) hs hf hN hi hln hc' hsu' J nb f (up.trans up') na os ag hx' (fun e => yes' e a na) fun e => ?_
    obtain ⟨hx'', k⟩ := no' e
    exact clause_as (t := t) hs hf hN hi hln hc'' hsu'' J nb f (up.trans up') na os ag hx'' (fun _ => k a na) nofun
  · intro fl t r
    cases fl with
    | ret v =>
      obtain ⟨w, τ, G, V, rv, k⟩ := r
      exact ⟨w, τ, G, V.ofTry I.ok, rv, k⟩
    | next =>
      obtain ⟨τ, G, V, k⟩ := r
      exact wpAny_execs_nil ⟨τ, G, V.ofTry I.ok, k⟩
    | brk =>
      obtain ⟨τ, G, V, k⟩ := r
      exact ⟨τ, G, V.ofTry I.ok, k⟩
    | cont =>
      obtain ⟨τ, G, V, k⟩ := r
      exact ⟨τ, G, V.ofTry I.ok, k⟩
end
end BF
/-! ## A caught exception handed to a def: it stands frozen while the def runs -/
namespace BF
open PySem PySem.Spec PyProof.Rows L2
def delA (H : Hp) (a : Addr) : Hp := fun b => if b = a then none else H b
theorem delA_same {H : Hp} {a : Addr} : delA H a a = none := by
  unfold delA
  rw [if_pos rfl]
theorem delA_ne {H : Hp} {a b : Addr} (h : b ≠ a) : delA H a b = H b := by
  unfold delA
  rw [if_neg h]
section
variable {X : Cx} {pins : List (Addr × Obj)} {σ : L2.St} {H : Hp} {s : Shared} {k : Nat} {f : Addr} {fd : FuncData} {ps : List Str} {sp : Sp} {Q : VK}
theorem run_fnX {a : Addr} {oe : Obj} {u : HO} {us : List Value} {vs : List V} (F : FnOk X.prog X.w X.K X.mg X.base CX0 k f fd ps sp) (hr : Room k X.A) (hb : Binds X.K fd ps []) (I : Inv X pins σ H s) (r : Vals vs us)
    (ha : s.heap.get? a = some oe) (hn : H a = none) (hbase : X.base.get? a = none) (hfr : a ∉ frs X.stack) (hu : ObjOk X.prog X.w (upd H a (.frz oe u)) s.heap a u)
    (h : sp vs (upd H a (.frz oe u)) (fun v H' => Q v (delA H' a)) C8.E0) : wpAny (model X.prog X.w) X.A (call (.ref f) us) (EP X pins σ Q) X.xe s := by
  have neN : ∀ {b : Addr} {o : HO}, H b = some o → b ≠ a := fun {b o} h1 z => by
    rw [z, hn] at h1
    cases h1
  have hok : HOk X.prog X.w (upd H a (.frz oe u)) s.heap := fun b o hb' => by
    by_cases z : b = a
    · subst z
      rw [upd_same] at hb'
      cases hb'
      exact ⟨ha, hu⟩
    · rw [upd_ne z] at hb'
      exact (I.hok b o hb').stay (fun c v hc y => y) (fun c hc => by rw [upd_ne (neN hc)]; exact hc) (fun c xs hc => by rw [upd_ne (neN hc)]; exact hc)
  have e0 := I.env0
  have E1 : Env0 X.prog X.w X.K X.mg X.base X.A X.stack s (upd H a (.frz oe u)) := ⟨e0.frames, e0.mod, fun b o hb' => ⟨(e0.bs b o hb').1, by
    rw [upd_ne (fun z => by rw [z, hbase] at hb'; cases hb')]
    exact (e0.bs b o hb').2⟩, e0.bsz, e0.funs, fun b hb' => by
    have z : b ≠ a := fun z => hfr (by rw [← z]; exact hb')
    rw [upd_ne z]
    exact e0.frf b hb', hok, e0.bare⟩
  have hl : us.length = ps.length := by rw [← r.length]; exact F.len _ _ _ _ h
  have hb0 := hb s us I.kIn (by simpa using hl)
  rw [List.append_nil] at hb0
  refine wpAny_call (codeAny_mono (F.run X.A X.stack s _ ⟨us, []⟩ us vs _ C8.E0 hr E1 hb0 r h) fun r s' hq => ?_)
  cases r with
  | error e => exact (show False from hq).elim
  | ok fl =>
    cases fl with
    | ret w =>
      obtain ⟨v, H', os, bare, un, hok', rv, q⟩ := hq
      have hA : H' a = some (.frz oe u) := un.frzs a oe u upd_same
      have hA2 : s'.heap.get? a = some oe := (hok' a _ hA).1
      refine I.after ⟨v, delA H' a, os, bare, ⟨fun b o e n hf hx => ?_, fun b o e n hf hx => ?_, fun b o e n hx => ?_, un.there, fun b xs e => ?_, fun b o y e => ?_, fun b ps e => ?_⟩, fun b o e => ?_, rv, q⟩
      · by_cases z : b = a
        · rw [z] at e ⊢
          rw [ha] at e
          cases e
          exact hA2
        · exact un.keep b o e (by rw [upd_ne z]; exact n) hf hx
      · exact un.slot b o e (by
          have z : b ≠ a := fun z => hfr (by rw [← z]; exact hf)
          rw [upd_ne z]
          exact n) hf hx
      · by_cases z : b = a
        · rw [z]
          exact delA_same
        · rw [delA_ne z]
          exact un.free b o e (by rw [upd_ne z]; exact n) hx
      · rw [delA_ne (neN e)]
        exact un.tups b xs (by rw [upd_ne (neN e)]; exact e)
      · rw [delA_ne (neN e)]
        exact un.frzs b o y (by rw [upd_ne (neN e)]; exact e)
      · rw [delA_ne (neN e)]
        exact un.tbls b ps (by rw [upd_ne (neN e)]; exact e)
      · by_cases z : b = a
        · rw [z, delA_same] at e
          cases e
        · rw [delA_ne z] at e
          refine (hok' b o e).stay (fun c v hc y => y) (fun c hc => ?_) (fun c xs hc => ?_)
          · rw [delA_ne (fun z => by rw [z, hA] at hc; cases hc)]
            exact hc
          · rw [delA_ne (fun z => by rw [z, hA] at hc; cases hc)]
            exact hc
    | next => exact False.elim hq
    | brk => exact False.elim hq
    | cont => exact False.elim hq
end
end BF
/-! ## What a def may ask of an exception that it was handed: its fields, its class -/
namespace BF
open PySem PySem.Spec PyProof.Rows L2
/-- an exception of the class at C, its dict at d, as it stands -/
def exF (C : Addr) (d : Option Addr) (oe : Obj) : HO := .frz oe (.ext fun _ => Zc (.ref C) d oe ∧ ∃ vs, oe.data = .fields vs)
def tXfT (K : PySem.W.Frag) (f : Str) (te : TE) : TE := fun σ H Q => te σ H fun x H1 => ∃ (a C dd : Addr) (oe : Obj) (fs : List (Str × V)) (v : V), x = .ref a ∧ H1 a = some (exF C (some dd) oe) ∧ XfC K C ∧ PySem.W.findIn K (.ref C) f = some none ∧ H1 dd = some (.xd fs) ∧ fs.lookup f = some v ∧ Q v H1
theorem pe_xfT {X : Cx} {e : Expr} {te : TE} {pos : Pos} {n : Str} (he : PE X e te) (hb : attributeBase e n X.env (eval e X.env) = eval e X.env := by rfl) : PE X (.Attribute e n pos) (tXfT X.K n te) := by
  refine ⟨fun pins s σ H Q I h => ?_⟩
  refine attr_of hb (thn (he.run pins s σ H _ I h) fun u s1 hh => ?_)
  obtain ⟨x, H1, I1, rx, a, C, dd, oe, fs, v, ex, ea, T, hno, ed, l, q⟩ := hh
  subst ex
  obtain rfl : u = Value.ref a := rx
  obtain ⟨ha, ⟨hz, vs, hd⟩, _⟩ := (show ObjOk X.prog X.w H1 s1.heap a (exF C (some dd) oe) from I1.hok a _ ea)
  have hx : ObjOk X.prog X.w H1 s1.heap dd (.xd fs) := I1.hok dd _ ed
  obtain ⟨mA, hns, hr⟩ := hx
  obtain ⟨od, ho, hl⟩ := lookIn_ns hns
  obtain ⟨u, hu, ru⟩ := RelO.some_of (v := v) (o := mA n) (by rw [← l]; exact hr n)
  have J : PySem.W.InstAt s1.heap a oe C (some od) := ⟨ha, hz.1, by unfold PySem.W.notCls; rw [hd] <;> rfl, by rw [hz.2]; exact ho⟩
  exact HandSPX.exc_get I1.kIn J T.ga T.gg T.exC (PySem.W.findObj_own T.hdC hno rfl (by rw [hl, hu])) (handed_of ru) ⟨v, H1, I1.tok _, ru, q⟩
end BF
/-! ## isinstance of an exception that was handed on -/
namespace BF
open PySem PySem.Spec PySem.Calls PyProof.Rows L2 PySem.W
section
variable {prog : Program} {w : World} {A : Around} {E : Value → Shared → Prop} {s : Shared} {K : PySem.W.Frag} {x D : Addr} {ox : Obj} {od : Option Obj}
/-- x.__class__ of an exception object with a dict -/
theorem kin_classO {Q : Option Value → Shared → Prop} (C : ExcC K D) (hf : findObj K D od "__class__" = some (.bind (.builtin "getset_descriptor.__get__") (.builtin "object.__class__"))) (X : K.In s.heap) (I : InstAt s.heap x ox D od) (h : Q (some (.ref D)) { s with toks := s.toks + 1 }) :
    wpAny (model prog w) A (getAttr? (.ref x) "__class__") Q E s := by
  obtain ⟨hp, g, d, t, os⟩ := s
  have L0 := I.type (M := model prog w)
  have L1 := looks_findIn (M := model prog w) X C.hg
  have L2 := looks_findIn (M := model prog w) X C.hk
  have L3 := looks_find (M := model prog w) X I hf
  have sub : Looks (model prog w) hp (isInstance (.ref x) (.type "BaseException")) true := L0.andThen (looks_subIn X C.hs)
  have hx0 : (false && onTheHeap (Value.builtin "BaseException.__getattribute__")) = false := rfl
  have hx2 : (Value.builtin "BaseException.__getattribute__" == Value.builtin "object.__getattribute__") = false := by decide +kernel
  have hx1 : (onTheHeap (Value.ref D) && Value.builtin "BaseException.__getattribute__" == Value.builtin "object.__getattribute__") = false := by rw [hx2]; rfl
  unfold getAttr? getAttrBy? getAttrBy
  refine wpAny_bind (wpAny_mkText (wpAny_bind (wpAny_attempt (wpAny_holding (wpAny_bind (L0.at (wpAny_bind (L1.at ?_))))))))
  show wpAny _ _ (if (onTheHeap (Value.ref D) && Value.builtin "BaseException.__getattribute__" == Value.builtin "object.__getattribute__") = true then _ else _) _ _ _
  rw [hx1, if_neg Bool.false_ne_true]
  unfold getAttrByItsOwn hookBefore
  refine wpAny_bind ?_
  rw [if_pos (show onTheHeap (Value.ref D) = true from rfl)]
  refine L2.at ?_
  refine wpAny_bind (wpAny_attempt (wpAny_holding ?_))
  unfold callGetattribute
  rw [hx0, if_neg Bool.false_ne_true]
  unfold boundAndCalled
  rw [PySem.F.excAttr_ValueError.ga.bind (.ref x)]
  refine wpAny_bind (wpAny_pure ?_)
  show wpAny _ _ (call (.builtin "BaseException.__getattribute__") [.ref x, .str "__class__" t]) _ _ _
  refine wpAny_call (codeAny_call_builtin PySem.F.excAttr_ValueError.ga.plain PySem.F.entry_bexc_ga ?_)
  refine @check_slot (model prog w) _ _ ⟨hp, g, d, t + 1, os⟩ "BaseException.__getattribute__" "BaseException" "__getattribute__" (.ref x) [.str "__class__" t] [] _ (by decide +kernel) (by decide +kernel) sub (PySem.F.args_bexc_ga (.ref x) (.str "__class__" t)) ?_
  unfold Builtin.«object.__getattribute__»
  refine wpAny_bind (wpAny_of_eq (a := ((Value.ref x : Value), [Value.str "__class__" t])) (by first | rfl | (simp only [slotArgs]; rfl)) ?_)
  refine wpAny_bind (wpAny_pure (wpAny_bind (L0.at (wpAny_bind (L3.at ?_)))))
  show wpAny _ _ (holding [Value.builtin "object.__class__"] (call (.builtin "getset_descriptor.__get__") [.builtin "object.__class__", .ref x, .ref D]) >>= ret) _ _ _
  refine wpAny_bind (wpAny_holding (wpAny_call (class_get (s := ⟨hp, g, d, t + 1, os⟩) (ox := ox) (od := od) X I C.hm ?_)))
  refine wpAny_pure ?_
  show wpAny _ _ (handedOut (.ref D)) _ _ _
  rw [handedOut_of (v := .ref D) rfl]
  first
    | exact wpAny_pure (wpAny_pure h)
    | exact wpAny_pure h
    | exact wpAny_pure (wpAny_bind (wpAny_pure (wpAny_pure h)))
theorem kitx_excO (C : ExcC K D) (hf : findObj K D od "__class__" = some (.bind (.builtin "getset_descriptor.__get__") (.builtin "object.__class__"))) : KitX K (.ref x) (.ref D) (fun h => InstAt h x ox D od) where
  ty := fun _ _ _ I => I.type
  it := fun _ _ X _ => by
    obtain ⟨cdD, hcD, _⟩ := any_some C.hd
    unfold clsIn at hcD
    split at hcD
    · rename_i c' d' cd' sl' ho
      intro A' Q' E' s' k q
      unfold isType loadHead
      exact wpAny_bind (wpAny_loadPart (k _ _ (X _ _ ho)) (wpAny_pure q))
    · cases hcD
  ne := fun h tp dd its n sl X htp => (handS_kitx_exc (x := x) (ox := ox) C.hg C.hk C.hs C.hd C.ha C.hn C.ht C.hm).ne h tp dd its n sl X htp
  ca := fun X I k => kin_classO C hf X I k
end
/-- isinstance(e, c), e an exception that was handed on -/
def rIsET (K : PySem.W.Frag) : List V → Hp → VK → Prop := fun xs H Q => ∃ (a D dd : Addr) (oe : Obj) (fs : List (Str × V)) (c : V) (cv : Value) (b : Bool), xs = [.ref a, c] ∧ H a = some (exF D (some dd) oe) ∧ H dd = some (.xd fs) ∧ ExcC K D ∧ (∀ u, RelV c u → u = cv) ∧ PySem.W.kitOne K (.ref D) cv = some b ∧ Q (.bl b) H
theorem call_isET {X : Cx} : CallR X (.builtin "isinstance") (rIsET X.K) := by
  intro pins s σ H xs us Q I r h
  obtain ⟨a, D, dd, oe, fs, c, cv, b, rfl, ea, ed, C, hcv, e, q⟩ := h
  cases r with
  | cons rx rr =>
    cases rr with
    | cons rt rr =>
      cases rr
      cases rx
      have ec := hcv _ rt
      subst ec
      obtain ⟨hget, ⟨hz, vs, hv⟩, _⟩ := (show ObjOk X.prog X.w H s.heap a (exF D (some dd) oe) from I.hok a _ ea)
      obtain ⟨mA, hns, hr⟩ := (show ObjOk X.prog X.w H s.heap dd (.xd fs) from I.hok dd _ ed)
      obtain ⟨od, ho, hl⟩ := lookIn_ns hns
      have J : PySem.W.InstAt s.heap a oe D (some od) := ⟨hget, hz.1, by unfold PySem.W.notCls; rw [hv] <;> rfl, by rw [hz.2]; exact ho⟩
      have hf : findObj X.K D (some od) "__class__" = some (.bind (.builtin "getset_descriptor.__get__") (.builtin "object.__class__")) := findObj_data (by obtain ⟨cd, hc, _⟩ := any_some C.hd; rw [hc]; rfl) C.ha C.hn C.ht
      exact PySem.W.kia_one (kitx_excO C hf) I.kIn J e (fun z => nomatch z) fun tk => ⟨.bl b, H, I.kept (t' := tk) fun _ _ z => z, rfl, q⟩
end BF
/-! ## the call that hands a caught exception on -/
namespace BF
open PySem PySem.Spec PyProof.Rows L2
/-- f(e), e the exception that the suite holds; the def keeps sp -/
def tCallX (a C : Addr) (d : Option Addr) (oe : Obj) (sp : Sp) (te : TE) : TE := fun σ H Q => te σ H fun x H1 => x = .ref a ∧ sp [.ref a] (upd H1 a (exF C d oe)) (fun v H' => Q v (delA H' a)) C8.E0
section
variable {X : Cx} {a C : Addr} {oe : Obj} {d : Option Addr} {pn : List (Addr × Obj)} {e : Expr} {te : TE} {p pos : Pos} {x : Str} {k : Nat} {f : Addr} {fd : FuncData} {ps : List Str} {sp : Sp}
theorem pe_callX (hs : X.stack = X.env :: X.outer) (hf : X.env.frame = some X.env.locals) (hbase : X.base.get? a = none) (hz : Zc (.ref C) d oe) (hd : ∃ vs, oe.data = .fields vs)
    (F : FnOk X.prog X.w X.K X.mg X.base CX0 k f fd ps sp) (hr : Room k (X.suite a ((a, oe) :: pn)).A) (hg : Gl (X.suite a ((a, oe) :: pn)) x) (hm : X.mg x = some (.ref f)) (hk : PySem.W.keepIn X.K (.ref f) = true) (hb : Binds X.K fd ps [])
    (he : PE (X.suite a ((a, oe) :: pn)) e te) (hdb : (x == ("__debug__" : Str)) = false := by decide) (hst : starEach [e] X.env = (false, eval e X.env) :: starEach [] X.env := by rfl) (hpl : (backTo pos (starEach [] X.env)).any (·.1) = false := by rfl) :
    PE (X.suite a ((a, oe) :: pn)) (.Call (.Name x p) [e] [] pos) (tCallX a C d oe sp te) := by
  refine ⟨fun pins s σ H Q I h => ?_⟩
  refine wpAny_Call_Name_kw (ld_glob I hg hm ?_ hdb)
  have hx : wpAny (model X.prog X.w) (X.suite a ((a, oe) :: pn)).A _ _ _ s := (pa_weak (pa_cons he pa_nil hst)).run pos pins s σ H (fun vs H1 => vs = [.ref a] ∧ sp [.ref a] (upd H1 a (exF C d oe)) (fun v H' => Q v (delA H' a)) C8.E0) I
    ⟨fun vs H1 => match vs with
      | [x] => x = .ref a ∧ sp [.ref a] (upd H1 a (exF C d oe)) (fun v H' => Q v (delA H' a)) C8.E0
      | _ => False, h, fun vs H1 k => match vs, k with
      | [_], ⟨e, k⟩ => ⟨by rw [e], k⟩⟩
  refine PySem.W.callWith_K (h₀ := X.base) I.ok.mod.kin hk (thn hx fun us s1 ⟨vs, H1, I1, r, ev, q⟩ => ⟨I1.kIn, ?_⟩) hst hpl
  subst ev
  obtain ⟨g1, g2, g3, g4, _⟩ := I1.pin (a, oe) (List.mem_append_left _ List.mem_cons_self)
  refine run_fnX (X := X.suite a ((a, oe) :: pn)) (u := .ext fun _ => Zc (.ref C) d oe ∧ ∃ vs, oe.data = .fields vs) F hr hb I1 r g1 g2 hbase (fun z => ?_) ⟨⟨hz, hd⟩, ⟨oe, g1⟩, fun _ _ h _ => h⟩ q
  have z : a ∈ frs X.stack := z
  rw [hs] at z
  obtain ⟨e', m, k'⟩ := List.mem_filterMap.mp z
  rcases List.mem_cons.mp m with rfl | m
  · rw [hf] at k'
    exact g3 (Option.some.inj k').symm
  · exact g4 (List.mem_filterMap.mpr ⟨e', m, k'⟩)
end
end BF
/-! ## try with one named clause; what is caught is new above the written part -/
namespace BF
open PySem PySem.Spec PyProof.Rows L2
def wAs1 (K : PySem.W.Frag) (c : Value) (i : Nat) (ts : ClS) (D : Ends) : WX := fun cls d σ H => PySem.W.exmOne K cls c = some true ∧ ∀ a, H a = none → ts a cls d (unEnd i D) (σ.set i (some (.ref a))) H
section
variable {X : Cx} {pins : List (Addr × Obj)} {σ : L2.St} {H : Hp} {D : Ends}
theorem clause_asB {sI t : Shared} {B h : Heap} {a : Addr} {cls : Value} {d : Option Addr} {x n : Str} {c : Value} {i : Nat} {b : Bool} {b₀ : Stmt} {suite : List Stmt} {np pos' : Pos} {rest : List ExceptHandler} {ts : ClS} (hs : X.stack = X.env :: X.outer) (hf : X.env.frame = some X.env.locals)
    (hN : X.N.Nodup) (hi : X.N[i]? = some n) (hln : X.env.kindOf n = some .local) (hc : Names X x c)
    (hsu : ∀ (a : Addr) (oe : Obj) (cls : Value) (d : Option Addr) (pn : List (Addr × Obj)), X.base.get? a = none → Zc cls d oe → (∃ vs, oe.data = .fields vs) → PSs (X.suite a ((a, oe) :: pn)) (b₀ :: suite) (ts a cls d))
    (J : Inv X pins σ H sI) (nb : ∀ b o, sI.heap.get? b = some o → b ∉ frs X.stack → B.get? b = some o)
    (f : HandSPX.FlyingZ B (X.env :: X.outer) a (Zc cls d) h) (up : sI.heap.UpToSlots h) (na : H a = none) (os : t.os = sI.os) (ag : AllBare t.gens) (hx : PySem.W.exmOne X.K cls c = some b)
    (yes : b = true → ts a cls d (unEnd i D) (σ.set i (some (.ref a))) H) (no : b = false → wpAny (model X.prog X.w) X.A (handleBy (.ref a) X.env rest) (SP X pins D) X.xe { t with heap := h }) :
    wpAny (model X.prog X.w) X.A (handleBy (.ref a) X.env (.ExceptHandler (some (.Name x np)) (some n) (b₀ :: suite) pos' :: rest)) (SP X pins D) X.xe { t with heap := h } := by
  obtain ⟨J1, o, vs, g, z, fd, S⟩ := fly_suite hs hf J nb f up na os ag
  have hbase : X.base.get? a = none := by
    cases e : X.base.get? a with
    | none => rfl
    | some o0 =>
      have e2 := nb a o0 (J.bk a o0 e) (by rw [hs]; exact (fly_out f).1)
      have e3 : B.get? a = none := f.2.1
      rw [e3] at e2
      cases e2
  refine wpAny_handleBy_cons (codeAny_handlers_test ?_) (by intro q; cases q)
  have lk : PySem.W.Looks (model X.prog X.w) h (typeOf (.ref a)) cls := fun _ _ _ _ k q => wpAny_typeOf_ref (k _ _ g) (by rw [z.1]; exact q)
  have name : ∀ {R E : Value → Shared → Prop}, R c { t with heap := h } → wpAny (model X.prog X.w) (X.A.mark (some (.ref a))) (eval (.Name x np) X.env) R E { t with heap := h } := fun {R E} q => by
    rcases hc with ⟨gl, dbg, m | ⟨m, v, ne⟩⟩
    · exact ld_glob S gl m q dbg
    · exact ld_blt S gl m v q ne dbg
  refine name (PySem.W.Looks.here (PySem.W.exm_one (M := model X.prog X.w) J1.kIn lk hx) ?_)
  cases b with
  | false => exact no rfl
  | true =>
    refine codeAny_handlers_suite_as (HandSPX.lands_againZ f fun h2 f2 up2 => ?_)
    obtain ⟨_, o2, vs2, g2, z2, fd2, S2⟩ := fly_suite (t := t) hs hf J nb f2 (up.trans up2) na os ag
    refine store_ok (X := X.suite a ((a, o2) :: (X.pn ++ pins))) (v := .ref a) S2 hN hi (.inl hln) rfl (fun u U => ?_) (.inr hln)
    refine wpAny_mono ((hsu a o2 cls d (X.pn ++ pins) hbase z2 ⟨_, fd2⟩).run [] u _ H _ U (yes rfl)) (fun fl u2 r => ?_) (fun _ _ w => w.elim)
    have fin : ∀ {τ : L2.St} {G : Hp} {R : Shared → Prop}, Inv (X.suite a ((a, o2) :: (X.pn ++ pins))) [] τ G u2 → (∀ u3, Inv X pins (τ.set i none) G u3 → R u3) →
        wpAny (model X.prog X.w) X.A (do bindName X.env n .none; unbindBehindTheSuite X.env n pos') (fun _ u3 => R u3) X.xe u2 := fun V k => gone_ok (Inv.unsuite V J.ok) hN hi hln k
    cases fl with
    | ret w =>
      obtain ⟨v, τ, G, V, rv, q⟩ := r
      exact fin V fun _ V3 => ⟨v, _, _, V3, rv, q⟩
    | next =>
      obtain ⟨τ, G, V, q⟩ := r
      exact fin V fun _ V3 => ⟨_, _, V3, q⟩
    | brk =>
      obtain ⟨τ, G, V, q⟩ := r
      exact fin V fun _ V3 => ⟨_, _, V3, q⟩
    | cont =>
      obtain ⟨τ, G, V, q⟩ := r
      exact fin V fun _ V3 => ⟨_, _, V3, q⟩
theorem ps_try_as1B {x n : Str} {c : Value} {i : Nat} {body suite : List Stmt} {b₀ : Stmt} {np pos pos1 : Pos} {tb : WX → TS} {ts : ClS} (hs : X.stack = X.env :: X.outer) (hf : X.env.frame = some X.env.locals)
    (hN : X.N.Nodup) (hi : X.N[i]? = some n) (hln : X.env.kindOf n = some .local) (hc : Names X x c)
    (hb : ∀ (W : WX) (pn : List (Addr × Obj)) (xe : Value → Shared → Prop), Takes (X.tr pn xe) W → PassesOwn (model X.prog X.w) X.A X.env xe → PSs (X.tr pn xe) body (tb W))
    (hsu : ∀ (a : Addr) (oe : Obj) (cls : Value) (d : Option Addr) (pn : List (Addr × Obj)), X.base.get? a = none → Zc cls d oe → (∃ vs, oe.data = .fields vs) → PSs (X.suite a ((a, oe) :: pn)) (b₀ :: suite) (ts a cls d)) :
    PS X (.Try body [.ExceptHandler (some (.Name x np)) (some n) (b₀ :: suite) pos1] [] [] pos) (fun D σ H => tb (wAs1 X.K c i ts D) D σ H) := by
  refine ⟨fun pins s σ H D I q => wpAny_Try_except ?_⟩
  refine wpAny_mono ((hb (wAs1 X.K c i ts D) (X.pn ++ pins) (fun e s₁ => wpAny (model X.prog X.w) X.A (noteFrame e X.env) (fun _ s₂ => wpAny (model X.prog X.w) X.A (setFlight e none) (fun _ s₃ =>
    wpAny (model X.prog X.w) X.A (handleBy e X.env [.ExceptHandler (some (.Name x np)) (some n) (b₀ :: suite) pos1]) (SP X pins D) X.xe s₃) X.xe s₂) X.xe s₁) ?_ PassesOwn.looking).run [] s σ H D (I.toTry _) q) ?_ (fun _ _ r => r)
  · rintro u t ⟨a, B, sI, pins1, τ, G, cls, d, rfl, J, nb, up, sky, na, os, ag, hx, yes⟩
    have J := J.ofTry I.ok
    refine Sky.land (Z := Zc cls d) (B := B) (a := a) Zc.steady (by rw [I.ok.frames, hs]) hf (by rw [← hs]; exact sky) fun h f up' => ?_
    exact clause_asB (t := t) hs hf hN hi hln hc hsu J nb f (up.trans up') na os ag hx (fun _ => yes a na) nofun
  · intro fl t r
    cases fl with
    | ret v =>
      obtain ⟨w, τ, G, V, rv, k⟩ := r
      exact ⟨w, τ, G, V.ofTry I.ok, rv, k⟩
    | next =>
      obtain ⟨τ, G, V, k⟩ := r
      exact wpAny_execs_nil ⟨τ, G, V.ofTry I.ok, k⟩
    | brk =>
      obtain ⟨τ, G, V, k⟩ := r
      exact ⟨τ, G, V.ofTry I.ok, k⟩
    | cont =>
      obtain ⟨τ, G, V, k⟩ := r
      exact ⟨τ, G, V.ofTry I.ok, k⟩
end
end BF
/-! ## tuple.index, sorted, set over tuples of ints and of pairs -/
namespace GA
open PySem PySem.Spec PyProof.Rows L2
theorem flat_ints (ns : List Int) : (ns.map V.int).all flatV = true := by
  rw [List.all_map]; exact List.all_eq_true.mpr fun _ _ => rfl
def rTIx (K : PySem.W.Frag) : V → List V → Hp → VK → Prop := fun x xs H Q => ∃ (p : Addr) (ns : List Int) (k : Int) (j : Nat), x = .ref p ∧ xs = [.int k] ∧ SqT K H p (ns.map V.int) ∧ ns[j]? = some k ∧ (∀ m, m < j → ns[m]? ≠ some k) ∧ Q (.int (j : Nat)) H
theorem mt_tix {X : Cx} : MtR X "tuple.index" (rTIx X.K) := by
  intro pins s σ H x xs v us Q I rx rs h
  obtain ⟨p, ns, k, j, rfl, rfl, hT, hj, hno, q⟩ := h
  cases rx
  obtain ⟨u, rfl, t, rfl⟩ := vals1 rs
  obtain ⟨items, rv, ⟨⟨c0, d0, dt, sl⟩, ho, hc, n, hd⟩, _⟩ := I.tuple hT
  simp only at hc hd
  subst hc hd
  have hl : items.toArray.size = ns.length := by rw [List.size_toArray, ← rv.length, List.length_map]
  have hjl : j < items.toArray.size := hl ▸ (List.getElem?_eq_some_iff.mp hj).1
  have look : ∀ (m : Nat) (hm : m < items.toArray.size), ∃ y t', ns[m]? = some y ∧ items.toArray[m] = Value.int y t' := fun m hm => by
    have hm' : m < ns.length := hl ▸ hm
    obtain ⟨z, hz, t', e⟩ := rv.get (i := m) (x := .int ns[m]) (by simp [hm'])
    refine ⟨ns[m], t', List.getElem?_eq_getElem hm', ?_⟩
    rw [← e, ← (List.getElem?_eq_some_iff.mp hz).2]; simp
  refine call_meets PySem.F.slot_tuple_index ⟨_, ho, rfl⟩ PySem.F.entry_tuple_index (PySem.F.args_tuple_index_2 _ _) (TI.tuple_indexAt p items.toArray n d0 sl (.int k t) (eqU (.int k)) j hjl ?_ ?_)
    ⟨ho, fun z hz => mem_eqAt (x := .int k) ⟨t, rfl⟩ rfl rv (flat_ints ns) z (by simpa using hz), ⟨.int (j : Nat), H, I.tok _, ⟨_, rfl⟩, q⟩⟩
  · obtain ⟨y, t', h1, h2⟩ := look j hjl
    rw [hj] at h1; cases h1
    rw [h2]; exact (decide_eq_true rfl : decide (k = k) = true)
  · intro m hm hmj
    obtain ⟨y, t', h1, h2⟩ := look m hm
    rw [h2]
    exact (decide_eq_false fun e => hno m hmj (e ▸ h1) : decide (y = k) = false)
end GA
/-! ## sorted of a tuple of ints -/
namespace GA
open PySem PySem.Spec PyProof.Rows L2 Srt SrtO
section
variable {prog : Program} {w : World} {A : Around} {E : Value → Shared → Prop} {s : Shared}
theorem coll_tup {l : Addr} {o : Obj} {vs : List Value} {n : Nat} {Q : List Value → Shared → Prop} (hg : s.heap.get? l = some o) (hc : o.cls = .type "tuple") (hd : o.data = .seq vs.toArray n) (hz : vs.length ≤ sizeLine)
    (h : Q vs { s with heap := (s.heap.push (seqObj "list" #[] 0)).update s.heap.objs.size (Obj.mapSeq (· ++ vs.toArray)) }) : wpAny (model prog w) A (collect (.ref l)) Q E s := by
  have g1 : (s.heap.push (seqObj "list" #[] 0)).get? l = some o := Heap.get?_push_of_some _ hg
  have g2 : (s.heap.push (seqObj "list" #[] 0)).get? s.heap.objs.size = some (seqObj "list" #[] 0) := Heap.get?_push_size _ rfl
  unfold collect
  refine wpAny_bind (wpAny_runValue (codeAny_builtin entry_proto_collect' (show wpAny _ _ (do again (.builtin "list.__iadd__" ⟨[← newList [], .ref l], []⟩)) _ _ s from
    wpAny_bind (wpAny_newList (wpAny_pure ⟨Code.quiet_builtin _ (by decide +kernel), codeAny_builtin entry_list_iadd' ?_⟩)))))
  show wpAny _ _ (Builtin.List.listExtendWith (.ref s.heap.objs.size) (.ref l) (.ref s.heap.objs.size)) _ _ { s with heap := s.heap.push (seqObj "list" #[] 0) }
  unfold Builtin.List.listExtendWith
  have ht : (Value.type "tuple" == Value.type "tuple") = true := by rfl
  refine wpAny_bind (wpAny_typeOf (T := "tuple") ⟨o, g1, hc⟩ ?_)
  rw [if_pos (by rw [ht]; simp)]
  refine wpAny_bind (listItems_at g1 hd (wpAny_bind (listItems_at (xs := #[]) (n := 0) g2 rfl ?_)))
  rw [if_neg (by simp)]
  refine wpAny_bind (listUpdate_at (xs := #[]) (n := 0) g2 rfl ?_ (Nat.zero_le _) (by show (#[] ++ vs.toArray).size ≤ sizeLine + 1; simp only [Array.size_append, List.size_toArray, List.length_nil]; omega))
  refine wpAny_pure (show wpAny (model prog w) A (do
      let o ← load s.heap.objs.size
      match o.data with
      | .seq xs _ => pure xs.toList
      | _ => unsupported "internal:collect") Q E { s with heap := (s.heap.push (seqObj "list" #[] 0)).update s.heap.objs.size (Obj.mapSeq (· ++ vs.toArray)) } from wpAny_bind (wpAny_load (get?_update_seq g2 _) ?_))
  show wpAny _ _ (pure ((#[] : Array Value) ++ vs.toArray).toList) Q E _
  rw [show ((#[] : Array Value) ++ vs.toArray).toList = vs by simp]
  exact wpAny_pure h
theorem sorted_tup {l : Addr} {o : Obj} {vs : List Value} {ns : List Int} {n : Nat} {Q : Value → Shared → Prop} (hg : s.heap.get? l = some o) (hc : o.cls = .type "tuple") (hd : o.data = .seq vs.toArray n) (hi : IntsAre vs ns) (hz : vs.length ≤ sizeLine)
    (h : ∀ (out : List Value) (ns' : List Int), IntsAre out ns' → ns'.Perm ns → ns'.Pairwise (· ≤ ·) → Q (.ref (s.heap.objs.size + 1)) { s with heap := sortedAll s.heap vs out.toArray }) :
    wpAny (model prog w) A (call (.builtin "sorted") [.ref l]) Q E s := by
  refine Calls.call_function_entry kind_sorted plain_sorted entry_sorted (args_sorted1 _) ?_
  unfold Builtin.«sorted»
  refine wpAny_bind (m := checkCount "sorted" 1 1 _) (wpAny_pure (wpAny_bind (coll_tup hg hc hd hz (wpAny_bind (wpAny_newList ?_ hz)))))
  have sz : ((s.heap.push (seqObj "list" #[] 0)).update s.heap.objs.size (Obj.mapSeq (· ++ vs.toArray))).objs.size = s.heap.objs.size + 1 := by rw [Heap.size_update, size_push']
  have at1 : (((s.heap.push (seqObj "list" #[] 0)).update s.heap.objs.size (Obj.mapSeq (· ++ vs.toArray))).push (seqObj "list" vs.toArray 0)).get? (s.heap.objs.size + 1) = some (seqObj "list" vs.toArray 0) := by
    rw [← sz]; exact Heap.get?_push_size _ rfl
  show wpAny _ _ _ _ _ { s with heap := ((s.heap.push (seqObj "list" #[] 0)).update s.heap.objs.size (Obj.mapSeq (· ++ vs.toArray))).push (seqObj "list" vs.toArray 0) }
  rw [sz]
  refine wpAny_bind (wpAny_holding (wpAny_call_entry slot_list_sort ⟨_, at1, rfl⟩ entry_list_sort (list_sort_ord swo_int at1 hz (fun h2 => ints_sortable hi h2) fun out h1 hb => ⟨_, rfl, wpAny_pure ⟨_, rfl, ?_⟩⟩) (args_list_sort _)))
  obtain ⟨k1, k2, k3⟩ := ints_out hi h1 hb
  exact h out _ k1 k2 k3
end
/-- sorted(t), t a tuple of ints -/
def rSrtT (K : PySem.W.Frag) : List V → Hp → VK → Prop := fun vs H Q => ∃ (a : Addr) (ns : List Int), vs = [V.ref a] ∧ SqT K H a (ns.map V.int) ∧
  ∀ (ns' : List Int) (p : Addr), ns'.Perm ns → ns'.Pairwise (· ≤ ·) → H p = none → Q (.ref p) (upd H p (.lst (ns'.map V.int)))
theorem cr_srtT {X : Cx} : CallR X (.builtin "sorted") (rSrtT X.K) := by
  intro pins s σ H vs us Q I r h
  obtain ⟨a, ns, rfl, hs, q⟩ := h
  obtain ⟨its, rv, ⟨o, ho, hc, n, hd⟩, hz⟩ := I.tuple hs
  rw [Vals.ref1 r]
  have hz' : its.length ≤ sizeLine := by rw [← rv.length]; exact hz
  refine sorted_tup ho hc hd rv.ints hz' fun out ns' hI pm pw => ?_
  obtain ⟨ep, he⟩ := PyProof.Rows.sortedAll_at s.heap its out.toArray
  have hlen : (ns'.map V.int).length ≤ sizeLine := by
    rw [List.length_map, pm.length_eq]
    rw [List.length_map] at hz; exact hz
  exact ⟨.ref _, upd H (s.heap.objs.size + 1) (.lst (ns'.map V.int)), I.laid (t' := s.toks) (fun _ _ => PyProof.Rows.sortedAll_old) (Nat.le_succ _) ⟨hlen, out, ep, vals_of_ints hI, he⟩, rfl, q _ _ pm pw (I.hok.fresh (Nat.le_succ _))⟩
end GA
/-! ## len(set(t)), t a tuple of ints or of tuples of ints -/
namespace GA
open PySem PySem.Spec PyProof.Rows L2
theorem card_le {α : Type} [DecidableEq α] : ∀ {ks ns : List α}, ks.Nodup → (∀ x ∈ ks, x ∈ ns) → ks.length ≤ ns.length
  | [], _, _, _ => Nat.zero_le _
  | k :: ks, ns, nd, h => by
    obtain ⟨n1, n2⟩ := List.nodup_cons.mp nd
    have hk : k ∈ ns := h k List.mem_cons_self
    have := card_le (ks := ks) (ns := ns.erase k) n2 fun x hx => (List.mem_erase_of_ne (show x ≠ k from fun e => n1 (by rw [← e]; exact hx))).mpr (h x (List.mem_cons_of_mem _ hx))
    rw [List.length_erase_of_mem hk] at this
    have := List.length_pos_of_mem hk
    rw [List.length_cons]
    omega
theorem card_eq {α : Type} [DecidableEq α] {ks ns : List α} (nd : ks.Nodup) (h1 : ∀ x ∈ ks, x ∈ ns) (h2 : ∀ x ∈ ns, x ∈ ks) : ks.length ≤ ns.length ∧ (ks.length = ns.length ↔ ns.Nodup) := by
  refine ⟨card_le nd h1, fun e => ?_, fun hn => Nat.le_antisymm (card_le nd h1) (card_le hn h2)⟩
  have key : ∀ {ms : List α}, ¬ ms.Nodup → ∃ x, x ∈ ms ∧ x ∈ ms.erase x := by
    intro ms
    induction ms with
    | nil => intro h; exact absurd List.nodup_nil h
    | cons m ms ih =>
      intro h
      by_cases hm : m ∈ ms
      · exact ⟨m, List.mem_cons_self, by rw [List.erase_cons_head]; exact hm⟩
      · obtain ⟨x, x1, x2⟩ := ih fun q => h (List.nodup_cons.mpr ⟨hm, q⟩)
        refine ⟨x, List.mem_cons_of_mem _ x1, ?_⟩
        have ne : ¬ (m == x) = true := fun e => hm (by rw [eq_of_beq e]; exact x1)
        rw [List.erase_cons_tail ne]
        exact List.mem_cons_of_mem _ x2
  refine Classical.byContradiction fun hn => ?_
  obtain ⟨x, x1, x2⟩ := key hn
  have := card_le (ks := ks) (ns := ns.erase x) nd fun y hy => by
    by_cases e : y = x
    · rw [e]; exact x2
    · exact (List.mem_erase_of_ne e).mpr (h1 y hy)
  rw [List.length_erase_of_mem x1] at this
  have := List.length_pos_of_mem x1
  omega
section
variable {P : Program} {w : World} {A : Around} {E : Value → Shared → Prop} {s : Shared}
set_option maxHeartbeats 3200000 in
theorem call_set_tupT {l : Addr} {items : Array Value} (ks : List (Addr × List Int)) {Q : Value → Shared → Prop} (gHh : A.handled = none) (gL : s.heap.IsTuple l items) (gIt : items.toList = ks.map fun p => Value.ref p.1)
    (gK : ∀ p ∈ ks, IsT P w s.heap p.2 p.1) (gFew : ks.length < 64) (gU : A.units + 3 < cLine)
    (h : ∀ (h' : Heap) (tk : Nat) L es ep t, SetTR P w h' s.heap.objs.size L es ep t → Got ks ks.length L →
      (∀ b o, s.heap.get? b = some o → h'.get? b = some o) → Q (.ref s.heap.objs.size) { s with heap := h', toks := tk }) : wpAny (model P w) A (call (.type "set") [.ref l]) Q E s := by
  have eSz : items.size = ks.length := by
    have q := congrArg List.length gIt
    skip; rw [Array.length_toList, List.length_map] at q
    exact q
  obtain ⟨c, tail0, eMro⟩ := F.called_set.mro
  have eMade := F.called_set.made
  have eSub := F.called_set.sub
  skip; refine wpAny_call (codeAny_of_tree ?_)
  skip; show wpAny _ _ (callAny (.type "set") _) _ _ _
  skip; refine wpAny_pure ⟨Code.quiet_builtin _ (by decide +kernel), codeAny_builtin F.entry_type_call ?_⟩
  skip; rw [Around.under_plain (weight_type_call_type "set" [.ref l] []) rfl]
  skip; have h1 := F.called_set.notType
  skip; have h2 := F.called_set.canCreate
  have eCt := F.typeCall_set_1 (.ref l)
  skip; repeat (any_goals (first | assumption | wp_step))

  refine codeAny_mono (code_set_led1 (.ref l) (E := E) (Q₁ := fun obj s₁ => obj = .ref s.heap.objs.size ∧ s₁ = { s with heap := s.heap.push { cls := .type "set", dict := none, data := .set #[] 0 (.fresh 0 0 (!w.params.followText "set-order")) } }) ⟨rfl, rfl⟩) fun r s₁ eR => ?_
  cases r with
  | error e => exact eR
  | ok fl =>
    cases fl with
    | ret obj =>
      obtain ⟨rfl, rfl⟩ := eR
      have gS : (s.heap.push { cls := .type "set", dict := none, data := .set #[] 0 (.fresh 0 0 (!w.params.followText "set-order")) }).get? s.heap.objs.size = some { cls := .type "set", dict := none, data := .set #[] 0 (.fresh 0 0 (!w.params.followText "set-order")) } := Heap.get?_push_size _ rfl
      have gT : Shared.TypeIs { s with heap := s.heap.push { cls := .type "set", dict := none, data := .set #[] 0 (.fresh 0 0 (!w.params.followText "set-order")) } } (.ref s.heap.objs.size) "set" := ⟨_, gS, rfl⟩
      have eLi := F.called_set.init.lookup
      have eBi := F.called_set.init.bind (.ref s.heap.objs.size)
      skip; repeat (any_goals (first | assumption | wp_step))

      skip; refine codeAny_mono (codeAny_call_builtin (R := wants (fun r s₂ => r = .none ∧ ∃ h' tk L es ep t, s₂ = { s with heap := h', toks := tk } ∧ SetTR P w h' s.heap.objs.size L es ep t ∧ Got ks ks.length L ∧
          (∀ b o, s.heap.get? b = some o → h'.get? b = some o)) E) F.called_set.init.plain F.entry_set_init (check_set_init_1 gT ?_)) fun r₂ s₂ eR2 => ?_
      · obtain ⟨ob0, gO, gC, nn, gD⟩ := gL
        obtain ⟨c0, d0, dt0, sl0⟩ := ob0
        simp only at gC gD
        subst gC; subst gD
        have gO1 : (s.heap.push { cls := .type "set", dict := none, data := .set #[] 0 (.fresh 0 0 (!w.params.followText "set-order")) }).get? l = some { cls := .type "tuple", dict := d0, data := .seq items nn, slots := sl0 } := Heap.get?_push_of_some _ gO
        have eS1 := F.sub_tuple_set
        have eS2 := F.sub_tuple_frozenset
        have eNe : (Value.type "tuple" == Value.type "dict") = false := by decide
        have gl1 : (s.heap.push { cls := .type "set", dict := none, data := .set #[] 0 (.fresh 0 0 (!w.params.followText "set-order")) }).IsTuple l items := ⟨_, gO1, rfl, nn, rfl⟩
        skip; unfold Builtin.«set.__init__» noKeywords Builtin.Frozenset.updateFrom
        generalize ePI : pyIter = PI
        wp_walk
        subst ePI

        refine wpAny_pyIter_tuple gl1 ?_
        skip; refine wpAny_bind (wpAny_runValue ?_)
        have gLt : l < s.heap.objs.size := Heap.lt_size gO
        have gH3 : A.in1.in1.in1.handled = none := by simp [gHh]
        have gZ1 : (s.heap.push { cls := .type "set", dict := none, data := .set #[] 0 (.fresh 0 0 (!w.params.followText "set-order")) }).objs.size = s.heap.objs.size + 1 := Heap.size_push ..
        have gNe : l ≠ (s.heap.push { cls := .type "set", dict := none, data := .set #[] 0 (.fresh 0 0 (!w.params.followText "set-order")) }).objs.size := by
          rw [Heap.size_push]; exact Nat.ne_of_lt (Nat.lt_succ_of_lt gLt)
        have gSf : s.heap.objs.size ∉ [(s.heap.push { cls := .type "set", dict := none, data := .set #[] 0 (.fresh 0 0 (!w.params.followText "set-order")) }).objs.size, l] := by
          skip; rw [Heap.size_push]; simp only [List.mem_cons, List.mem_singleton, List.not_mem_nil, or_false, not_or]
          exact ⟨Nat.ne_of_lt (Nat.lt_succ_self _), Nat.ne_of_gt gLt⟩
        have gVal : ∀ (i : Nat) (v : Value), items[i]? = some v → ∃ p, ks[i]? = some p ∧ v = .ref p.1 := fun i v hv => by
          skip; have q : items.toList[i]? = some v := by rw [Array.getElem?_toList]; exact hv
          rw [gIt, List.getElem?_map] at q
          cases hq : ks[i]? with
          | none => (rw [hq] at q; cases q)
          | some p =>
            rw [hq] at q
            skip; exact ⟨p, rfl, (Option.some.inj q).symm⟩
        have gNone : ∀ b, s.heap.objs.size ≤ b → s.heap.get? b = none := fun b hb => by
          cases q : s.heap.get? b with
          | none => rfl
          | some o => exact (Nat.lt_irrefl _ (Nat.lt_of_lt_of_le (Heap.lt_size q) hb)).elim
        refine set_update_tups ((Walks.tuple gH3 _ l gNe items).toS) s.heap.objs.size
          gSf ks eSz gFew gVal s.heap gK (gNone _ (Nat.le_refl _)) (fun b hb => gNone b (by
            skip; rw [List.mem_singleton.mp hb, Heap.size_push]
            exact Nat.le_succ _)) gU (items.size - 0) 0 _ (by omega) (Nat.zero_le _)
          ⟨⟨_, Heap.get?_push_size _ rfl, rfl, rfl⟩, (gl1.push _)⟩ (fun b o e => Heap.get?_push_of_some _ (Heap.get?_push_of_some _ e)) ?hS0 ?hR
        case hS0 =>
          have gGet : ((s.heap.push { cls := .type "set", dict := none, data := .set #[] 0 (.fresh 0 0 (!w.params.followText "set-order")) }).push { cls := .type "tuple_iterator", data := .fields #[.ref l, .int 0 0] }).get? s.heap.objs.size
              = some { cls := .type "set", dict := none, data := .set #[] 0 (.fresh 0 0 (!w.params.followText "set-order")) } := Heap.get?_push_of_some _ gS
          exact ⟨[], #[], 0, _, setTR_fresh gGet, Got.zero ks⟩
        case hR =>
          intro s' L es ep t gM gS2 gGot gKp
          skip; obtain ⟨h', g2, d', tk', os'⟩ := s'
          have eg : g2 = s.gens := gM.gens
          have ed : d' = s.drawn := gM.drawn
          have eo : os' = s.os := gM.os
          subst eg; subst ed; subst eo
          show wpAny _ _ _ _ _ _
          refine wpAny_pure ?_
          skip; show wpAny _ _ (ret Value.none) _ _ _
          rw [eSz] at gGot
          exact wpAny_pure ⟨rfl, h', tk', L, es, ep, t, rfl, gS2, gGot, gKp⟩

      · cases r₂ with
        | error e => exact eR2
        | ok fl₂ =>
          cases fl₂ with
          | ret r =>
            obtain ⟨rfl, h', tk, L, es, ep, t, rfl, gS2, gGot, gK2⟩ := eR2
            skip; repeat (any_goals (first | assumption | wp_step))
            exact h _ _ _ _ _ _ gS2 gGot gK2
          | _ => exact eR2.elim
    | _ => exact eR.elim
end
/-- len(set(t)), t a tuple of ints -/
def tLsI (K : PySem.W.Frag) (ta : TE) : TE := fun σ H Q => ta σ H fun x H1 => ∃ (p : Addr) (ns : List Int), x = .ref p ∧ SqT K H1 p (ns.map V.int) ∧ ns.length ≤ 1000 ∧ ∀ c : Nat, c ≤ ns.length → (c = ns.length ↔ ns.Nodup) → Q (.int c) H1
theorem pe_lsI {X : Cx} {a : Expr} {ta : TE} {p p2 q pos : Pos} (hc : X.calm = true) (hg : Gl X "len") (hm : X.mg "len" = none) (hg2 : Gl X "set") (hm2 : X.mg "set" = none) (ha : PE X a ta)
    (na : starEach [a] X.env = (false, eval a X.env) :: starEach [] X.env := by rfl) : PE X (.Call (.Name "len" p) [.Call (.Name "set" p2) [a] [] q] [] pos) (tLsI X.K ta) := by
  refine ⟨fun pins s σ H Q I h => Call_ (ld_blt I hg hm PySem.boot_len (PyProof.Rows.callWith_builtin1 (PyProof.Rows.args_cons (Call_ (ld_blt I hg2 hm2 PyProof.Rows.boot_set
    (PyProof.Rows.callWith_type1 (PyProof.Rows.args_cons (thn (ha.run pins s σ H _ I h) fun v s1 ⟨x, H1, I1, r1, q1⟩ => PyProof.Rows.args_nil ?_) na) na rfl))) rfl) rfl rfl))⟩
  obtain ⟨t, ns, rfl, hT, hl, q1⟩ := q1
  cases r1
  obtain ⟨its, rv, pl, hz⟩ := I1.tuple hT
  refine call_set_tupI ns (I1.ok.hd hc) pl (by simpa using rv.ints) (by unfold scanBound; omega) fun h' tk c R hcl keep => PyProof.Rows.args_nil ?_
  obtain ⟨o, es, ep, tb, ho, hex, hd, _, nd, mem, _, hf, hn, _, _⟩ := R
  have e1 : (es.toList.map keyOf).length = c := by rw [List.length_map, Array.length_toList, hn]
  have q := card_eq (ks := es.toList.map keyOf) (ns := ns) nd (fun x hx => of_decide_eq_true ((mem x).mpr hx)) fun x hx => (mem x).mp (decide_eq_true hx)
  rw [e1] at q
  have I2 : Inv X pins σ H1 { s1 with heap := h', toks := tk } := I1.kept keep
  exact call_len_set ho hex hd hf (by rw [hn] <;> omega) ⟨.int c, H1, I2.tok _, ⟨_, by rw [hn]⟩, q1 c q.1 q.2⟩
/-- len(set(t)), t a tuple of tuples of ints -/
def tLsT (K : PySem.W.Frag) (ta : TE) : TE := fun σ H Q => ta σ H fun x H1 => ∃ (p : Addr) (ks : List (Addr × List Int)), x = .ref p ∧ SqT K H1 p (ks.map fun z => V.ref z.1) ∧ (∀ z ∈ ks, SqT K H1 z.1 (z.2.map V.int)) ∧ ks.length < 64 ∧
  ∀ c : Nat, c ≤ ks.length → (c = ks.length ↔ (ks.map (·.2)).Nodup) → Q (.int c) H1
theorem pe_lsT {X : Cx} {a : Expr} {ta : TE} {p p2 q pos : Pos} (hc : X.calm = true) (hu : X.A.units + 64 < cLine) (hg : Gl X "len") (hm : X.mg "len" = none) (hg2 : Gl X "set") (hm2 : X.mg "set" = none) (ha : PE X a ta)
    (na : starEach [a] X.env = (false, eval a X.env) :: starEach [] X.env := by rfl) : PE X (.Call (.Name "len" p) [.Call (.Name "set" p2) [a] [] q] [] pos) (tLsT X.K ta) := by
  refine ⟨fun pins s σ H Q I h => Call_ (ld_blt I hg hm PySem.boot_len (PyProof.Rows.callWith_builtin1 (PyProof.Rows.args_cons (Call_ (ld_blt I hg2 hm2 PyProof.Rows.boot_set
    (PyProof.Rows.callWith_type1 (PyProof.Rows.args_cons (thn (ha.run pins s σ H _ I h) fun v s1 ⟨x, H1, I1, r1, q1⟩ => PyProof.Rows.args_nil ?_) na) na rfl))) rfl) rfl rfl))⟩
  obtain ⟨t, ks, rfl, hT, hk, hl, q1⟩ := q1
  cases r1
  obtain ⟨its, rv, pl, hz⟩ := I1.tuple hT
  refine call_set_tupT (P := X.prog) (w := X.w) ks (I1.ok.hd hc) pl (by simpa using refs_of_vals rv) (fun z hz => I1.isT (hk z hz)) hl (by omega) fun h' tk L es ep tb R g keep => PyProof.Rows.args_nil ?_
  have q := card_eq (ks := L.map (·.2)) (ns := ks.map (·.2)) R.nd (fun x hx => by
    obtain ⟨z, hz, rfl⟩ := List.mem_map.mp hx
    exact List.mem_map.mpr ⟨z, List.mem_of_mem_take (g.sub z hz), rfl⟩) fun x hx => by
    obtain ⟨z, hz, rfl⟩ := List.mem_map.mp hx
    exact g.all z (by rw [List.take_length]; exact hz)
  rw [List.length_map, List.length_map] at q
  obtain ⟨o, ho, hex, hd⟩ := R.ob
  have I2 : Inv X pins σ H1 { s1 with heap := h', toks := tk } := I1.kept keep
  have hz : es.size = L.length := R.size (s := { s1 with heap := h', toks := tk })
  exact call_len_set ho hex hd (R.fits (s := { s1 with heap := h', toks := tk })) (by have := R.few; omega) ⟨.int L.length, H1, I2.tok _, ⟨_, by rw [hz]⟩, q1 _ q.1 q.2⟩
end GA
/-! ## enumerate of a tuple; tuples of which is known that they have no dict -/
namespace GA
open PySem PySem.Spec PyProof.Rows L2
open AutoSeq1 (wpAny_loadPart')
def itT (l : Addr) : Obj := { cls := .type "tuple_iterator", data := .fields #[.ref l, .int 0 0] }
def enT (p : Addr) : Obj := { cls := .type "enumerate", data := .fields #[.none, .bool false, .ref p, rawInt 0, .none, .none] }
theorem enum_newT (l : Addr) (items : Array Value) (n : Nat) (dct : Option Addr) (sl : Array (Option Value)) :
    Meets (Builtin.«enumerate.__new__» ⟨[.type "enumerate", .ref l], []⟩) (fun _ R s => s.heap.get? l = some { cls := .type "tuple", dict := dct, data := .seq items n, slots := sl } ∧
      R (.ok (.ret (.ref (s.heap.push (itT l)).objs.size))) { s with heap := (s.heap.push (itT l)).push (enT s.heap.objs.size) }) :=
  .of_wp fun prog w A R s h => by
    obtain ⟨hp, g, d, tk, os⟩ := s
    obtain ⟨hl, h⟩ := h
    have hsub := sub_enumerate
    have hL : Heap.IsTuple (Shared.heap ⟨hp, g, d, tk, os⟩) l items := ⟨_, hl, rfl, n, rfl⟩
    wp_walk using wpAny_loadPart' hl
    refine wpAny_stack_any fun st => wpAny_pure ?_
    split
    · rename_i c _ _ _ _ _
      cases (c == Value.type "enumerate") <;> (wp_walk using wpAny_loadPart' hl, wpAny_pyIter_tuple hL; exact ⟨_, rfl, h⟩)
    · (wp_walk using wpAny_loadPart' hl, wpAny_pyIter_tuple hL); exact ⟨_, rfl, h⟩
section
variable {prog : Program} {w : World} {A : Around} {E : Value → Shared → Prop} {s : Shared}
theorem call_enumT {l : Addr} {items : Array Value} {Q : Value → Shared → Prop} (hL : s.heap.IsTuple l items)
    (h : ∀ h', IsEnum h' (s.heap.objs.size + 1) s.heap.objs.size 0 .none → h'.IsTupleIter s.heap.objs.size l 0 → (∀ b o, s.heap.get? b = some o → h'.get? b = some o) → Q (.ref (s.heap.objs.size + 1)) { s with heap := h' }) :
    wpAny (model prog w) A (call (.type "enumerate") [.ref l]) Q E s := by
  obtain ⟨⟨c, dct, dt, sl⟩, hl, hc, n, hd⟩ := hL
  simp only at hc hd
  subst hc hd
  refine callType_new F.called_enumerate (by decide) (F.typeCall_enumerate_1 _) (F.newCall_enumerate_1 _) (fun obj => F.args_object_init_2 obj _) F.entry_enumerate_new (enum_newT l items n dct sl) ⟨hl, ?_⟩
  have hz : (s.heap.push (itT l)).objs.size = s.heap.objs.size + 1 := Heap.size_push ..
  have he : IsEnum ((s.heap.push (itT l)).push (enT s.heap.objs.size)) (s.heap.objs.size + 1) s.heap.objs.size 0 .none := by
    have q := Heap.get?_push_size (s.heap.push (itT l)) (o := enT s.heap.objs.size) rfl
    rw [hz] at q; exact q
  show _ ∧ _
  rw [hz]
  exact ⟨⟨_, he, rfl⟩, h _ he ⟨_, Heap.get?_push_of_some _ (Heap.get?_push_size _ rfl), rfl, rfl⟩ fun b o x => Heap.get?_push_of_some _ (Heap.get?_push_of_some _ x)⟩
theorem enum_over {e it t : Addr} {i : Nat} {items : Array Value} {old : Value} {Q : Option Value → Shared → Prop} (hh : A.handled = none) (he : IsEnum s.heap e it i old) (hit : s.heap.IsTupleIter it t i) (ht : s.heap.IsTuple t items) (hx : items[i]? = none)
    (hQ : ∀ h', Heap.ExtBut it s.heap h' → Q none { s with heap := h' }) : wpAny (model prog w) A (pyNext (.ref e)) Q E s := by
  unfold pyNext
  have hT : s.TypeIs (.ref e) "enumerate" := ⟨_, he, rfl⟩
  refine wpAny_bind (wpAny_attempt (wpAny_callSpecial?_slot (name := Str.ofString "__next__") hT F.slot_enumerate_next (wpAny_call_entry F.slot_enumerate_next hT F.entry_enumerate_next ?_ (F.args_enumerate_next_1 _))))
  show wpAny _ _ (field (.ref e) 2 >>= _) _ _ _
  refine wpAny_bind (wpAny_field he rfl (x := .ref it) rfl (wpAny_bind (wpAny_nextOf_tuple_end hh hit ht hx fun h' x ex ⟨o, ho, hc⟩ => ?_)))
  exact wpAny_bind (wpAny_isInstance (T := "StopIteration") (b := true) ⟨o, ho, hc⟩ isSubtype_stop (wpAny_pure (hQ _ ex)))
end
def IteT (K : PySem.W.Frag) (a : Addr) : It :=
  ⟨fun i H => ∃ (xs : List V) (x : V), SqT K H a xs ∧ xs[i]? = some x, fun i H v H' => ∃ T x, v = .ref T ∧ H T = none ∧ H' = upd H T (.tup [.int (i : Nat), x]) ∧ ∀ xs, SqT K H a xs → xs[i]? = some x, fun i H => ∃ xs : List V, SqT K H a xs ∧ xs.length ≤ i⟩
theorem turn_enumT {P : Program} {w : World} {K : PySem.W.Frag} {elts : List Expr} {kk : Nat} {tpos : Pos} (a e it : Addr) :
    Turn P w K (.Tuple elts kk tpos) (IteT K a) [e, it] e (fun i h => (∃ old, IsEnum h e it ((i : Nat) : Int) old) ∧ h.IsTupleIter it a i ∧ e ≠ it) where
  mem := List.mem_cons_self
  obj := fun i h st b hb => by
    obtain ⟨⟨old, he⟩, ⟨o, ho, hc, hd⟩, _⟩ := st
    rcases (by simpa using hb : b = e ∨ b = it) with z | z
    · rw [z]; exact ⟨_, he, fun v q => nomatch q⟩
    · rw [z]; exact ⟨o, ho, fun v q => by rw [hd] at q; cases q⟩
  keep := fun i h h' st k => let ⟨⟨old, he⟩, hi, hne⟩ := st; ⟨⟨old, k e (by simp) _ he⟩, hi.at fun o q => k it (by simp) o q, hne⟩
  item := by
    rintro X rfl rfl rfl hc i pins s σ H E I hf ⟨⟨old, he⟩, hit, hne⟩ ⟨xs, x, hq, hx⟩
    obtain ⟨its, rv, p, hz⟩ := I.tuple hq
    obtain ⟨u, hu, ru⟩ := rv.get hx
    have hel : e < s.heap.objs.size := Heap.lt_size he
    have hil : it < s.heap.objs.size := by obtain ⟨_, q, _⟩ := hit; exact Heap.lt_size q
    obtain ⟨ot, hot, hct, nt, hdt⟩ := id p
    have a1 : a ≠ it := fun z => by
      obtain ⟨o2, q1, q2, _⟩ := hit
      rw [← z, hot] at q1
      cases q1
      rw [hct] at q2
      injection q2 with q2
      exact absurd q2 (by decide)
    have a2 : e ∉ [it, a] := fun z => by
      rcases (by simpa using z : e = it ∨ e = a) with z | z
      · exact hne z
      · have he2 : s.heap.get? e = some _ := he
        rw [z, hot] at he2
        have := congrArg Obj.cls (Option.some.inj he2)
        rw [hct] at this
        injection this with q
        exact absurd q (by decide)
    have hlt : i < its.toArray.size := by
      have := (List.getElem?_eq_some_iff.mp hu).1
      simpa using this
    refine wpAny_pyNext_enum_itemD (Draws.tuple (A := X.A.in1) (show X.A.in1.handled = none from I.ok.hd hc) it a a1 its.toArray) he ⟨hit, p⟩ hlt hne a2 fun y h' tk hy ho st' hT hsz hk => ?_
    have ey : y = u := by
      have : its.toArray[i]? = some u := by simpa using hu
      rw [this] at hy
      exact (Option.some.inj hy).symm
    subst ey
    refine ⟨_, rfl, wpAny_letOwnedTupleGo_enum (s := { s with heap := h', toks := tk + 1 }) ho fun h'' he' sb => ?_⟩
    have hT2 : h''.get? s.heap.objs.size = some { cls := .type "tuple", data := .seq #[.int i tk, y] } := (sb.2 _ (Nat.ne_of_gt hel)).trans hT
    have new : ObjOk X.prog X.w (upd H s.heap.objs.size (.tup [.int (i : Nat), x])) h'' s.heap.objs.size (.tup [.int (i : Nat), x]) :=
      ⟨by show 2 ≤ sizeLine; decide, [.int i tk, y], .cons ⟨_, rfl⟩ (.cons ru .nil), ⟨_, hT2, rfl, _, rfl⟩⟩
    have I1 : Inv X pins σ (upd H s.heap.objs.size (.tup [.int (i : Nat), x])) { s with heap := h'', toks := tk + 1 } :=
      I.turnedNew (ch := [e, it]) (fun b ob hb q => (sb.2 b (fun z => hb (by simp [z]))).trans (hk b ob (fun z => hb (by simp [z])) (fun z => hb (by simp [z])) q)) hf (Nat.le_refl _) new
    refine ⟨.ref s.heap.objs.size, _, I1, rfl, ⟨_, x, rfl, I.hok.fresh (Nat.le_refl _), rfl, fun ys hy => by rw [I.tuple_inj hy hq]; exact hx⟩, ⟨⟨y, ?_⟩, st'.1.at fun o q => (sb.2 it (Ne.symm hne)).trans q, hne⟩, fun b hb => ?_⟩
    · rw [show ((i + 1 : Nat) : Int) = (i : Int) + 1 by omega]; exact he'
    · have hb' : b < s.heap.objs.size := by
        rcases (by simpa using hb : b = e ∨ b = it) with z | z
        · rw [z]; exact hel
        · rw [z]; exact hil
      rw [upd_ne (Nat.ne_of_lt hb')]
      exact (hf b hb).1
  done := by
    rintro X rfl rfl rfl hc i pins s σ H E I hf ⟨⟨old, he⟩, hit, hne⟩ ⟨xs, hq, hx⟩
    obtain ⟨its, rv, p, hz⟩ := I.tuple hq
    obtain ⟨f0, f1, f2, f3, f4, f5⟩ := hf it (by simp)
    exact enum_over (I.ok.hd hc) he hit p (by have := rv.length; simp; omega) fun h' eb => ⟨rfl, I.turned (t' := s.toks) (fun b o hb q => eb b o hb q) f0 f1 f3 f4 f5⟩
  self := fun A i s Q E st h => let ⟨⟨_, he⟩, _⟩ := st; wpAny_pyIter_enum he h
/-- enumerate(t) -/
def iEnT (K : PySem.W.Frag) (ta : TA) : TI := fun σ H R => ta σ H fun vs H1 => ∃ a xs, vs = [.ref a] ∧ SqT K H1 a xs ∧ R (IteT K a) H1
theorem pi_enT {X : Cx} {e : Expr} {ta : TA} {p pos tpos : Pos} {elts : List Expr} {kk : Nat} (hg : Gl X "enumerate") (hm : X.mg "enumerate" = none) (ha : PA X [e] ta) (hs : starEach [e] X.env = [(false, eval e X.env)] := by rfl) :
    PI X (.Tuple elts kk tpos) (.Call (.Name "enumerate" p) [e] [] pos) (iEnT X.K ta) := by
  refine ⟨fun pins s σ H R I h => Call_ (ld_blt I hg hm boot_enumerate (PyProof.Rows.callWith_type1 (thn (ha.run pos pins s σ H _ I h) fun us s1 ⟨vs, H1, I1, r1, a, xs, ex, hq, q⟩ => ?_) hs rfl))⟩
  subst ex
  cases Vals.ref1 r1
  obtain ⟨its, rv, p', hz⟩ := I1.tuple hq
  refine call_enumT p' fun h' he hit hk => wpAny_pyIter_enum he ?_
  have I2 : Inv X pins σ H1 { s1 with heap := h' } := I1.kept (t' := s1.toks) hk
  refine ⟨s1.heap.objs.size + 1, [s1.heap.objs.size + 1, s1.heap.objs.size], _, _, H1, rfl, I2, turn_enumT a (s1.heap.objs.size + 1) s1.heap.objs.size, ⟨⟨.none, he⟩, hit, Nat.succ_ne_self _⟩, fun b hb => ?_, q⟩
  have hle : s1.heap.objs.size ≤ b := by
    rcases (by simpa using hb : b = s1.heap.objs.size + 1 ∨ b = s1.heap.objs.size) with z | z
    · rw [z]; exact Nat.le_succ _
    · rw [z]; exact Nat.le_refl _
  exact I1.fpOk hle (I1.hok.fresh hle)
theorem walk_enT {K : PySem.W.Frag} {a : Addr} {xs : List V} : Walk (IteT K a) xs.length (fun H => SqT K H a xs) (YPair (fun i => some (.int (i : Nat))) (fun i => xs[i]?)) :=
  ⟨fun i _ hi q => ⟨xs, xs[i], q, by simp [hi]⟩, fun _ q => ⟨xs, q, Nat.le_refl _⟩, fun i H v H' _ q ⟨T, x, h1, h2, h3, h4⟩ => ⟨T, .int (i : Nat), x, h1, h2, h3, rfl, h4 xs q⟩⟩
/-- tuple(l): the new object as it stands -/
def rTupZ (K : PySem.W.Frag) : List V → Hp → VK → Prop := fun xs H Q => ∃ p ys, xs = [.ref p] ∧ SqL K H p ys ∧ ∀ l o, H l = none → o.dict = none → Q (.ref l) (upd H l (.frz o (.tup ys)))
theorem call_tupZ {X : Cx} : CallR X (.type "tuple") (rTupZ X.K) := by
  intro pins s σ H xs us Q I r h
  obtain ⟨p, ys, rfl, hq, q⟩ := h
  rw [Vals.ref1 r]
  obtain ⟨its, rv, pl, hz⟩ := I.list hq
  have hlen := rv.length
  refine call_tuple_list pl.isList (fun h' kp => ?_) (by simp only [List.size_toArray]; omega)
  have I1 : Inv X pins σ H { s with heap := h' } := I.kept (t' := s.toks) kp
  have I2 : Inv X pins σ (upd H h'.objs.size (.frz { cls := .type "tuple", data := .seq its.toArray } (.tup ys))) { s with heap := h'.push { cls := .type "tuple", data := .seq its.toArray } } :=
    I1.laid (t' := s.toks) (fun b o e => Heap.get?_push_of_some _ e) (Nat.le_refl _) ⟨Heap.get?_push_size _ rfl, hz, its, rv, IsTup.new _ _⟩
  exact ⟨.ref h'.objs.size, _, I2, rfl, q _ _ (I1.hok.fresh (Nat.le_refl _)) rfl⟩
/-- t.m(e, ..), t a tuple that has no dict -/
def tBMZ (r : V → List V → Hp → VK → Prop) (to : TE) (t : TA) : TE := fun σ H Q => to σ H fun x H1 => (∃ a o ys, x = .ref a ∧ H1 a = some (.frz o (.tup ys)) ∧ o.dict = none) ∧ t σ H1 fun xs H2 => r x xs H2 Q
theorem pe_bmZ {X : Cx} {o e : Expr} {es : List Expr} {to : TE} {t : TA} {name : Str} {apos cpos : Pos} {id : String} {r : V → List V → Hp → VK → Prop} (pa : PlainAttrs "tuple") (slot : Slot "tuple" name id) (hty : typeOf (.builtin id) = pure (.type "method_descriptor")) (hm : MtR X id r) (ho : PE X o to) (ha : PA X (e :: es) t)
    (hbase : attributeBase o name X.env (eval o X.env) = eval o X.env := by rfl)
    (hfew : ((backTo cpos (starEach (e :: es) X.env)).all (fun x => !x.1) && (backToKw cpos (keywordEach [] X.env)).all (fun x => x.1.isSome) && decide ((e :: es).length + ([] : List Keyword).length + (if ([] : List Keyword).isEmpty then 0 else 1) < 30)) = true := by rfl)
    (hline : (apos.endLine == cpos.line) = true := by rfl) (hs : starEach (e :: es) X.env = (false, eval e X.env) :: starEach es X.env := by rfl) (hplain : (backTo cpos (starEach es X.env)).any (·.1) = false := by rfl) :
    PE X (.Call (.Attribute o name apos) (e :: es) [] cpos) (tBMZ r to t) := by
  refine ⟨fun pins s σ H Q I h => wpAny_Call_method_late hbase hfew hline rfl (thn (ho.run pins s σ H _ I h) fun v s1 ⟨x, H1, I1, r1, ⟨a, ob, ys, ex, hx, hd⟩, q1⟩ => ?_)⟩
  subst ex
  cases r1
  obtain ⟨ha1, _, its, rv, o2, h2, hc, _⟩ := (show ObjOk X.prog X.w H1 s1.heap a (.frz ob (.tup ys)) from I1.hok a _ hx)
  rw [ha1] at h2
  cases h2
  refine ⟨"tuple", id, pa, slot, hty, ⟨_, ha1, hc⟩, fun b eb => by cases eb; exact ⟨_, ha1, hd⟩, ?_⟩
  have hA := ha.run cpos pins s1 σ H1 _ I1 q1
  rw [hs] at hA ⊢
  exact Calls.callWith_builtin (by show (false || (backTo cpos (starEach es X.env)).any (·.1)) = false; rw [hplain] <;> rfl) (Calls.evalArgs_plain (thn hA fun us s2 ⟨vs, H2, I2, r2, q2⟩ => hm pins s2 σ H2 (.ref a) vs _ us Q I2 (show RelV (.ref a) (.ref a) from rfl) r2 q2))
end GA
/-! ## enumerate(tuple), sets, sorted, max, min, tables, texts, by data -/
namespace VF
open PySem PySem.Spec PyProof.Rows L2
section
variable {K : PySem.W.Frag} {W : Wc} {X : Cx} {e tg : Expr} {wr : WA} {we wa wb : WE} {τ : ST} {n : Int} {Q : DV → ST → Int → Prop} {P : DP} {pos : Pos}
abbrev iD (ns : List Int) : List DV := ns.map DV.int
theorem ints_ofD {b : Addr} {M : List Addr} {H : Hp} : ∀ {vs : List V} {ns : List Int}, DatL K b M H vs (iD ns) → vs = ns.map V.int
  | _, [], .nil => rfl
  | _, x :: ns, .cons h l => by
    cases h
    rw [ints_ofD (ns := ns) l]
    rfl
theorem strs_ofD {b : Addr} {M : List Addr} {H : Hp} : ∀ {vs : List V} {ns : List Str}, DatL K b M H vs (ns.map DV.str) → vs = ns.map V.str
  | _, [], .nil => rfl
  | _, x :: ns, .cons h l => by
    cases h
    rw [strs_ofD (ns := ns) l]
    rfl
/-! enumerate -/
def wEnT (wr : WA) : WA := fun τ n Q => wr τ n fun ds τ1 n1 => ∃ xs, ds = [.tup xs] ∧ Q (enumD xs) τ1 n1
theorem vi_enT (h : PI X tg e (GA.iEnT K (liftA K W wr))) : PI X tg e (liftI K W (wEnT wr)) := PI.imp h fun σ H R ⟨Γ, O, τ, n, Q', q, hw, k⟩ => ⟨Γ, O, τ, n, _, q, hw, fun vs H1 ds O1 τ1 n1 q1 d1 ⟨xs, ed, hq⟩ => by
  subst ed
  cases d1 with
  | cons h1 h2 =>
    cases h2
    cases h1 with
    | @tup a us _ a1 a2 =>
      refine ⟨a, us, rfl, a1.1, k _ H1 [.t a us xs] _ O1 τ1 n1 (q1.gcons ⟨a1, a2⟩) ⟨_, _, by rw [enumD_len, ← a2.length]; exact GA.walk_enT, fun O M H g => (g _ List.mem_cons_self).1.1, fun O M H i x H' g al hi y => ?_⟩ hq⟩
      obtain ⟨T, x, z, rfl, y2, y3, y4, y5⟩ := y
      obtain ⟨d, e1, e2⟩ := (g (.t a us xs) (by simp)).2.get y5
      cases y4
      obtain ⟨p1, p2⟩ := pair_dat al y2 y3 (.int _) e2
      exact ⟨p1, _, enumD_at e1, p2⟩⟩
theorem y_enT {Q : List DV → ST → Int → Prop} (k : wr τ n fun ds τ1 n1 => ∃ xs, ds = [.tup xs] ∧ Q (enumD xs) τ1 n1) : wEnT wr τ n Q := k
/-! tuple(l) of which is known that it has no dict, and what is asked of it -/
def wTupZ : List DV → DP → Prop
  | [.lst xs], Q => Q (.tupz xs)
  | _, _ => False
theorem d_tupZ : DCall K (GA.rTupZ K) wTupZ := fun b M H xs ds Q' Q al hd hw k => by
  cases hd with
  | nil => exact hw.elim
  | cons h1 hd => cases hd with
    | cons _ _ => cases h1 <;> exact hw.elim
    | nil =>
      cases h1 with
      | @lst a us _ a1 a2 => exact ⟨_, _, rfl, SqL.of a1.1, fun l o hl ho => by
          have ex : BF.Ex [] H (upd H l (.frz o (.tup us))) := BF.Ex.new hl
          exact k (.ref l) _ _ ex (.tupz upd_same ho (al.out hl) (DatL.ey (Ey.ex0 ex) a2)) hw⟩
      | _ => exact hw.elim
theorem y_tupZ {xs : List DV} (k : P (.tupz xs)) : wTupZ [.lst xs] P := k
/-- the slot's datum without that knowledge -/
def wVarZ (i : Nat) : WE := fun τ n Q => ∃ x, τ[i]? = some (some (.d x)) ∧ Q (fgt x) τ n
theorem ve_varZ {i : Nat} (h : PE X e (tVar i)) : PE X e (liftE K W (wVarZ i)) := BF.PE.imp h fun σ H Q ⟨Γ, O, τ, n, Q', q, ⟨x, hs, hw⟩, k⟩ => by
  obtain ⟨v, hv, hd⟩ := q.slot i _ hs
  exact ⟨v, hv, k v H _ O τ n q (Dat.fgt hd) hw⟩
theorem y_varZ {i : Nat} {x y : DV} (h : τ[i]? = some (some (.d x))) (e : fgt x = y) (k : Q y τ n) : wVarZ i τ n Q := ⟨x, h, by rw [e]; exact k⟩
def wTix (wa : WE) (wr : WA) : WE := fun τ n Q => wa τ n fun d τ1 n1 => ∃ ns : List Int, d = .tupz (iD ns) ∧ wr τ1 n1 fun ds τ2 n2 => ∃ (k : Int) (j : Nat), ds = [.int k] ∧ ns[j]? = some k ∧ (∀ m, m < j → ns[m]? ≠ some k) ∧ Q (.int (j : Nat)) τ2 n2
theorem ve_tix (h : PE X e (GA.tBMZ (GA.rTIx K) (liftE K W wa) (liftA K W wr))) : PE X e (liftE K W (wTix wa wr)) := BF.PE.imp h fun σ H Q ⟨Γ, O, τ, n, Q', q, hw, k⟩ => by
  refine ⟨Γ, O, τ, n, _, q, hw, fun v H1 d O1 τ1 n1 q1 d1 ⟨ns, ed, hw1⟩ => ?_⟩
  subst ed
  have d1' := d1
  cases d1 with
  | @tupz a o vs _ h1 h2 h3 h4 =>
    have ev := ints_ofD h4
    subst ev
    refine ⟨⟨a, o, _, rfl, h1, h2⟩, .d _ _ :: Γ, O1, τ1, n1, _, q1.gcons d1', hw1, fun xs H2 ds O2 τ2 n2 q2 d2 ⟨k', j, eds, hj, hno, hq⟩ => ?_⟩
    subst eds
    have dh := q2.head
    cases d2 with
    | cons e1 e2 =>
      cases e2
      cases e1
      cases dh with
      | tupz g1 g2 g3 g4 =>
        have ev := ints_ofD g4
        subst ev
        exact ⟨a, ns, k', j, rfl, rfl, .inl (.inr ⟨_, g1⟩), hj, hno, k _ H2 _ O2 τ2 n2 q2.tail (.int _) hq⟩
theorem y_tix (k : wa τ n fun d τ1 n1 => ∃ ns : List Int, d = .tupz (iD ns) ∧ wr τ1 n1 fun ds τ2 n2 => ∃ (k : Int) (j : Nat), ds = [.int k] ∧ ns[j]? = some k ∧ (∀ m, m < j → ns[m]? ≠ some k) ∧ Q (.int (j : Nat)) τ2 n2) : wTix wa wr τ n Q := k
/-! len(set(t)) -/
def wLsI (wa : WE) : WE := fun τ n Q => wa τ n fun d τ1 n1 => ∃ ns : List Int, d = .tup (iD ns) ∧ ns.length ≤ 1000 ∧ ∀ c : Nat, c ≤ ns.length → (c = ns.length ↔ ns.Nodup) → Q (.int c) τ1 n1
theorem ve_lsI (h : PE X e (GA.tLsI K (liftE K W wa))) : PE X e (liftE K W (wLsI wa)) := BF.PE.imp h fun σ H Q ⟨Γ, O, τ, n, Q', q, hw, k⟩ => by
  refine ⟨Γ, O, τ, n, _, q, hw, fun v H1 d O1 τ1 n1 q1 d1 ⟨ns, ed, hl, hq⟩ => ?_⟩
  subst ed
  cases d1 with
  | tup a1 a2 =>
    have ev := ints_ofD a2
    subst ev
    exact ⟨_, ns, rfl, a1.1, hl, fun c h1 h2 => k _ H1 _ O1 τ1 n1 q1 (.int _) (hq c h1 h2)⟩
abbrev iT (ks : List (List Int)) : List DV := ks.map fun k => DV.tup (iD k)
def wLsT (wa : WE) : WE := fun τ n Q => wa τ n fun d τ1 n1 => ∃ ks : List (List Int), d = .tup (iT ks) ∧ ks.length < 64 ∧ ∀ c : Nat, c ≤ ks.length → (c = ks.length ↔ ks.Nodup) → Q (.int c) τ1 n1
theorem tups_of {b : Addr} {M : List Addr} {H : Hp} : ∀ {vs : List V} {ks : List (List Int)}, DatL K b M H vs (iT ks) → ∃ zs : List (Addr × List Int), vs = zs.map (fun z => V.ref z.1) ∧ ks = zs.map (·.2) ∧ ∀ z ∈ zs, SqT K H z.1 (z.2.map V.int)
  | _, [], .nil => ⟨[], rfl, rfl, nofun⟩
  | _, k :: ks, .cons h l => by
    obtain ⟨zs, rfl, e2, h3⟩ := tups_of l
    cases h with
    | @tup a us _ a1 a2 =>
      have ev := ints_ofD a2
      subst ev
      exact ⟨(a, k) :: zs, rfl, by rw [List.map_cons, ← e2], fun z hz => (List.mem_cons.mp hz).elim (fun ez => by rw [ez]; exact a1.1) (h3 z)⟩
theorem ve_lsT (h : PE X e (GA.tLsT K (liftE K W wa))) : PE X e (liftE K W (wLsT wa)) := BF.PE.imp h fun σ H Q ⟨Γ, O, τ, n, Q', q, hw, k⟩ => by
  refine ⟨Γ, O, τ, n, _, q, hw, fun v H1 d O1 τ1 n1 q1 d1 ⟨ks, ed, hl, hq⟩ => ?_⟩
  subst ed
  cases d1 with
  | tup a1 a2 =>
    obtain ⟨zs, rfl, e2, h3⟩ := tups_of a2
    subst e2
    rw [List.length_map] at hl hq
    exact ⟨_, zs, rfl, a1.1, h3, hl, fun c h1 h2 => k _ H1 _ O1 τ1 n1 q1 (.int _) (hq c h1 h2)⟩
theorem y_lsI (k : wa τ n fun d τ1 n1 => ∃ ns : List Int, d = .tup (iD ns) ∧ ns.length ≤ 1000 ∧ ∀ c : Nat, c ≤ ns.length → (c = ns.length ↔ ns.Nodup) → Q (.int c) τ1 n1) : wLsI wa τ n Q := k
theorem y_lsT (k : wa τ n fun d τ1 n1 => ∃ ks : List (List Int), d = .tup (iT ks) ∧ ks.length < 64 ∧ ∀ c : Nat, c ≤ ks.length → (c = ks.length ↔ ks.Nodup) → Q (.int c) τ1 n1) : wLsT wa τ n Q := k
/-! sorted of a tuple of ints; max, min of a list of ints -/
def wSrtT : List DV → DP → Prop := fun ds Q => ∃ ns : List Int, ds = [.tup (iD ns)] ∧ ∀ ns' : List Int, ns'.Perm ns → ns'.Pairwise (· ≤ ·) → Q (.lst (iD ns'))
theorem d_srtT : DCall K (GA.rSrtT K) wSrtT := fun b M H xs ds Q' Q al hd ⟨ns, ed, hw⟩ k => by
  subst ed
  cases hd with
  | cons h1 hd =>
    cases hd
    cases h1 with
    | tup a1 a2 =>
      have ev := ints_ofD a2
      subst ev
      exact ⟨_, ns, rfl, a1.1, fun ns' p pm pw hp => k _ _ _ (new_lst (K := K) (b := b) al hp (DatL.ints ns')).1 (new_lst al hp (DatL.ints ns')).2 (hw ns' pm pw)⟩
def wMaxL : List DV → DP → Prop := fun ds Q => ∃ ns : List Int, ds = [.lst (iD ns)] ∧ 0 < ns.length ∧ ∀ m, m ∈ ns → (∀ y, y ∈ ns → y ≤ m) → Q (.int m)
def wMinL : List DV → DP → Prop := fun ds Q => ∃ ns : List Int, ds = [.lst (iD ns)] ∧ 0 < ns.length ∧ ∀ m, m ∈ ns → (∀ y, y ∈ ns → m ≤ y) → Q (.int m)
theorem d_maxL : DCall K (rMax K) wMaxL := fun b M H xs ds Q' Q al hd ⟨ns, ed, h0, hw⟩ k => by
  subst ed
  cases hd with
  | cons h1 hd =>
    cases hd
    cases h1 with
    | lst a1 a2 =>
      have ev := ints_ofD a2
      subst ev
      exact ⟨_, ns, rfl, SqL.of a1.1, h0, fun m hm hy => k _ H _ (BF.Ex.refl H) (.int m) (hw m hm hy)⟩
theorem d_minL : DCall K (rMin K) wMinL := fun b M H xs ds Q' Q al hd ⟨ns, ed, h0, hw⟩ k => by
  subst ed
  cases hd with
  | cons h1 hd =>
    cases hd
    cases h1 with
    | lst a1 a2 =>
      have ev := ints_ofD a2
      subst ev
      exact ⟨_, ns, rfl, SqL.of a1.1, h0, fun m hm hy => k _ H _ (BF.Ex.refl H) (.int m) (hw m hm hy)⟩
/-! a written table -/
def wDct (K : PySem.W.Frag) (w : World) : DV → DV → DP → Prop := fun d f Q => ∃ s z i, d = .cls s ∧ f = .str z ∧ KDct K w (He.ga K s) z (.int i) ∧ Q (.int i)
theorem d_dct {w : World} : DOp K (rIxD K w) (wDct K w) := fun b M H x y d f Q' Q al hx hy ⟨s, z, i, e1, e2, hk, hq⟩ k => by
  subst e1 e2
  cases hx
  cases hy
  exact ⟨_, _, _, rfl, rfl, hk, k _ H _ (BF.Ex.refl H) (.int i) hq⟩
theorem y_dct {w : World} {s z : Str} {i : Int} (h : KDct K w (He.ga K s) z (.int i)) (k : P (.int i)) : wDct K w (.cls s) (.str z) P := ⟨s, z, i, rfl, rfl, h, k⟩
/-! texts -/
def wStrI : List DV → DP → Prop
  | [.int i], Q => i.natAbs.log2 < 1920 ∧ Q (.str (toString i))
  | _, _ => False
theorem d_strI : DCall K (fun xs H Q => ∃ i, xs = [.int i] ∧ i.natAbs.log2 < 1920 ∧ Q (.str (toString i)) H) wStrI := fun b M H xs ds Q' Q al hd hw k => by
  cases hd with
  | nil => exact hw.elim
  | cons h1 hd => cases hd with
    | cons _ _ => cases h1 <;> exact hw.elim
    | nil =>
      cases h1 with
      | int i => exact ⟨i, rfl, hw.1, k _ H _ (BF.Ex.refl H) (.str _) hw.2⟩
      | _ => exact hw.elim
def rJoinD (K : PySem.W.Frag) : V → List V → Hp → VK → Prop := fun x xs H Q => ∃ a p, ∃ ys : List Str, x = .str a ∧ xs = [.ref p] ∧ (SqL K H p (ys.map V.str) ∨ SqT K H p (ys.map V.str)) ∧ (ys.map (·.length)).sum + ys.length * a.length ≤ 16777216 ∧ Q (.str (Txt.join a ys)) H
def wJoin (wa wb : WE) : WE := fun τ n Q => wa τ n fun d τ1 n1 => ∃ a, d = .str a ∧ wb τ1 n1 fun f τ2 n2 => ∃ ys : List Str, f = .lst (ys.map DV.str) ∧ (ys.map (·.length)).sum + ys.length * a.length ≤ 16777216 ∧ Q (.str (Txt.join a ys)) τ2 n2
theorem ve_join (h : PE X e (tM1 (rJoinD K) (liftE K W wa) (liftE K W wb))) : PE X e (liftE K W (wJoin wa wb)) := BF.PE.imp h fun σ H Q ⟨Γ, O, τ, n, Q', q, hw, k⟩ => by
  refine ⟨Γ, O, τ, n, _, q, hw, fun v H1 d O1 τ1 n1 q1 d1 ⟨a, ed, hw1⟩ => ?_⟩
  subst ed
  cases d1
  refine ⟨⟨a, rfl⟩, Γ, O1, τ1, n1, _, q1, hw1, fun u H2 f O2 τ2 n2 q2 d2 ⟨ys, ef, hl, hq⟩ => ?_⟩
  subst ef
  cases d2 with
  | lst a1 a2 =>
    have ev := strs_ofD a2
    subst ev
    exact ⟨a, _, ys, rfl, rfl, .inl (SqL.of a1.1), hl, k _ H2 _ O2 τ2 n2 q2 (.str _) hq⟩
theorem y_join (k : wa τ n fun d τ1 n1 => ∃ a, d = .str a ∧ wb τ1 n1 fun f τ2 n2 => ∃ ys : List Str, f = .lst (ys.map DV.str) ∧ (ys.map (·.length)).sum + ys.length * a.length ≤ 16777216 ∧ Q (.str (Txt.join a ys)) τ2 n2) : wJoin wa wb τ n Q := k
def wFmt (wa : WE) : WE := fun τ n Q => wa τ n fun d τ1 n1 => (∃ y, d = .str y ∧ y.length ≤ 1000000 ∧ Q (.str y) τ1 n1) ∨ ∃ i : Int, d = .int i ∧ i.natAbs.log2 < 1920 ∧ Q (.str (toString i)) τ1 n1
theorem ve_fmt (h : PE X e (tFmt (liftE K W wa))) : PE X e (liftE K W (wFmt wa)) := BF.PE.imp h fun σ H Q ⟨Γ, O, τ, n, Q', q, hw, k⟩ => by
  refine ⟨Γ, O, τ, n, _, q, hw, fun v H1 d O1 τ1 n1 q1 d1 hw1 => ?_⟩
  rcases hw1 with ⟨y, ed, hl, hq⟩ | ⟨i, ed, hl, hq⟩
  · subst ed
    cases d1
    exact .inl ⟨y, rfl, BF.sz_of hl, k _ H1 _ O1 τ1 n1 q1 (.str _) hq⟩
  · subst ed
    cases d1
    exact .inr ⟨i, rfl, hl, k _ H1 _ O1 τ1 n1 q1 (.str _) hq⟩
theorem y_fmtI (k : wa τ n fun d τ1 n1 => ∃ i : Int, d = .int i ∧ i.natAbs.log2 < 1920 ∧ Q (.str (toString i)) τ1 n1) (h : ∀ {R R' : DV → ST → Int → Prop}, (∀ d τ1 n1, R d τ1 n1 → R' d τ1 n1) → wa τ n R → wa τ n R') : wFmt wa τ n Q := h (fun _ _ _ q => .inr q) k
def wJs : List WE → Str → ST → Int → (Str → ST → Int → Prop) → Prop
  | [], acc, τ, n, Q => Q acc τ n
  | w :: ws, acc, τ, n, Q => w τ n fun d τ1 n1 => ∃ y, d = .str y ∧ (acc ++ y).length ≤ 1000000 ∧ wJs ws (acc ++ y) τ1 n1 Q
def wFs (ws : List WE) : WE := fun τ n Q => wJs ws Str.empty τ n fun z τ1 n1 => Q (.str z) τ1 n1
inductive VJ (K : PySem.W.Frag) (W : Wc) (X : Cx) : List Expr → List WE → Prop where
  | nil : VJ K W X [] []
  | cons {e : Expr} {w : WE} {es : List Expr} {ws : List WE} (h : PE X e (liftE K W w)) (r : VJ K W X es ws) : VJ K W X (e :: es) (w :: ws)
theorem VJ.pj {es : List Expr} {ws : List WE} (h : VJ K W X es ws) : PJ X es (ws.map (liftE K W)) := by
  induction h with
  | nil => exact .nil
  | cons h _ ih => exact .cons h ih
theorem js_lift : ∀ (ws : List WE) (acc : Str) {σ : L2.St} {H : Hp} {R : Str → Hp → Prop} {Γ : List Gh} {O : Om} {τ : ST} {n : Int} {Q' : Str → ST → Int → Prop}, Rel K W Γ O [] τ n σ H → wJs ws acc τ n Q' →
    (∀ z H' O' τ' n', Rel K W Γ O' [] τ' n' σ H' → Q' z τ' n' → R z H') → tJs (ws.map (liftE K W)) acc σ H R
  | [], acc, σ, H, R, Γ, O, τ, n, Q', q, hw, k => k acc H O τ n q hw
  | w :: ws, acc, σ, H, R, Γ, O, τ, n, Q', q, hw, k => ⟨Γ, O, τ, n, _, q, hw, fun v H1 d O1 τ1 n1 q1 d1 ⟨y, ed, hl, hq⟩ => by
    subst ed
    cases d1
    exact ⟨y, rfl, BF.sz_of hl, js_lift ws (acc ++ y) q1 hq k⟩⟩
theorem ve_fs {e1 e2 : Expr} {es : List Expr} {ws : List WE} (h : VJ K W X (e1 :: e2 :: es) ws) : PE X (.JoinedStr (e1 :: e2 :: es) pos) (liftE K W (wFs ws)) := BF.PE.imp (pe_joined h.pj) fun σ H Q ⟨Γ, O, τ, n, Q', q, hw, k⟩ =>
  js_lift ws Str.empty q hw fun z H' O' τ' n' q' hq => k _ H' _ O' τ' n' q' (.str z) hq
theorem y_fs {ws : List WE} (k : wJs ws Str.empty τ n fun z τ1 n1 => Q (.str z) τ1 n1) : wFs ws τ n Q := k
/-! list(range(n)) -/
def wLr1 (wa : WE) : WE := fun τ n Q => wa τ n fun d τ1 n1 => ∃ m : Nat, d = .int m ∧ m ≤ 100000 ∧ Q (.lst (rngD 0 m)) τ1 n1
theorem rgV_dat {b : Addr} {M : List Addr} {H : Hp} {m : Nat} : DatL K b M H (rgV 0 m) (rngD 0 m) := by
  have e1 : rgV 0 m = ((List.range m).map fun (i : Nat) => (i : Int)).map V.int := by
    unfold rgV
    rw [show ((m : Int) - 0).toNat = m by omega, List.map_map]
    exact List.map_congr_left fun i _ => by simp
  have e2 : rngD 0 m = ((List.range m).map fun (i : Nat) => (i : Int)).map DV.int := by
    unfold rngD
    rw [List.map_map]
    exact List.map_congr_left fun i _ => by simp
  rw [e1, e2]
  exact DatL.ints _
theorem ve_lr1 (h : PE X e (tLstRg (tRg1 (liftE K W wa)))) : PE X e (liftE K W (wLr1 wa)) := BF.PE.imp h fun σ H Q ⟨Γ, O, τ, n, Q', q, hw, k⟩ => by
  refine ⟨Γ, O, τ, n, _, q, hw, fun v H1 d O1 τ1 n1 q1 d1 ⟨m, ed, hl, hq⟩ => ?_⟩
  subst ed
  cases d1
  refine ⟨m, rfl, RgOk.of_le (by omega) (by omega) (by omega) (by omega), fun p hp => ?_⟩
  obtain ⟨ex, dd⟩ := new_lst q1.al' hp (rgV_dat (b := W.b) (m := m))
  exact k _ _ _ O1 τ1 n1 (q1.ex ex) dd hq
theorem y_lr1 (k : wa τ n fun d τ1 n1 => ∃ m : Nat, d = .int m ∧ m ≤ 100000 ∧ Q (.lst (rngD 0 m)) τ1 n1) : wLr1 wa τ n Q := k
def wLrO (wa : WE) : WA := fun τ n Q => wa τ n fun d τ1 n1 => ∃ m : Nat, d = .int m ∧ m ≤ 100000 ∧ Q (rngD 0 m) τ1 n1
theorem vo_lr1 (h : PE X e (tLstRg (tRg1 (liftE K W wa)))) : PE X e (liftO K W (wLrO wa)) := BF.PE.imp h fun σ H Q ⟨Γ, O, τ, n, Q', q, hw, k⟩ => by
  refine ⟨Γ, O, τ, n, _, q, hw, fun v H1 d O1 τ1 n1 q1 d1 ⟨m, ed, hl, hq⟩ => ?_⟩
  subst ed
  cases d1
  refine ⟨m, rfl, RgOk.of_le (by omega) (by omega) (by omega) (by omega), fun p hp => ?_⟩
  have ex : BF.Ex [] H1 (upd H1 p (.lst (rgV 0 m))) := BF.Ex.new hp
  exact k p _ _ _ O1 τ1 n1 (q1.apart hp ex) upd_same (q1.newO hp) (q1.ownC hp) rgV_dat hq
theorem y_lrO {Q : List DV → ST → Int → Prop} (k : wa τ n fun d τ1 n1 => ∃ m : Nat, d = .int m ∧ m ≤ 100000 ∧ Q (rngD 0 m) τ1 n1) : wLrO wa τ n Q := k
/-! a tuple several times -/
def wRepT : DV → DV → DP → Prop
  | .tup xs, .int k, Q => xs ≠ [] ∧ 2 ≤ k ∧ k ≤ 1000 ∧ xs.length ≤ 1000 ∧ Q (.tup (List.replicate k.toNat xs).flatten)
  | _, _, _ => False
theorem rep_dat {b : Addr} {M : List Addr} {H : Hp} {vs : List V} {ds : List DV} (h : DatL K b M H vs ds) : ∀ m : Nat, DatL K b M H (List.replicate m vs).flatten (List.replicate m ds).flatten
  | 0 => .nil
  | m + 1 => by
    rw [List.replicate_succ, List.replicate_succ, List.flatten_cons, List.flatten_cons]
    exact DatL.app h (rep_dat h m)
theorem d_repT : DOp K (rRepT K) wRepT := fun b M H x y d f Q' Q al hx hy hw k => by
  cases hx with
  | tup a1 a2 =>
    cases hy with
    | int i =>
      obtain ⟨h1, h2, h3, h4, hq⟩ := hw
      exact ⟨_, i, _, rfl, rfl, a1.1, fun z => h1 (by subst z; cases a2; rfl), h2, h3, by rw [a2.length]; exact h4, fun p hp => k _ _ _ (new_tup al hp (rep_dat a2 _)).1 (new_tup al hp (rep_dat a2 _)).2 hq⟩
    | _ => exact hw.elim
  | _ => exact hw.elim
end
end VF
/-! ## in a tuple of any data; l[::-1]; rules with K told -/
namespace VF
open PySem PySem.Spec PyProof.Rows L2
section
variable {K : PySem.W.Frag} {W : Wc} {X : Cx} {e : Expr} {wa : WE} {P : DP} {τ : ST} {n : Int} {Q : DV → ST → Int → Prop}
def rInT (K : PySem.W.Frag) (neg : Bool) : R2 := fun x y H Q => ∃ d ds, Dp K H x d ∧ Dp K H y (.tuple ds) ∧ SeqAt.shaped d = true ∧ SeqAt.shaped (.tuple ds) = true ∧ Q (.bl (if neg then !(ds.any fun z => PyData.eqv z d) else ds.any fun z => PyData.eqv z d)) H
theorem op_inT (hu : X.A.units + 65 < cLine) : OpR X (compareOp .In) (rInT X.K false) := by
  intro pins s σ H x y v u Q I rx ry ⟨d, ds, hd, he, sd, se, q⟩
  obtain ⟨as, r1⟩ := Dp.reads I d x v hd rx
  obtain ⟨bs, r2⟩ := Dp.reads I (.tuple ds) y u he ry
  exact SeqAt.in_tuple_reads r2 r1 (SeqAt.canLay_of_shaped (d := .tuple ds) se) (SeqAt.canLay_of_shaped sd) (room_in_shaped sd hu) ⟨.bl _, H, I, rfl, q⟩
theorem op_notInT (hu : X.A.units + 65 < cLine) : OpR X (compareOp .NotIn) (rInT X.K true) := by
  intro pins s σ H x y v u Q I rx ry ⟨d, ds, hd, he, sd, se, q⟩
  obtain ⟨as, r1⟩ := Dp.reads I d x v hd rx
  obtain ⟨bs, r2⟩ := Dp.reads I (.tuple ds) y u he ry
  exact SeqAt.notIn_tuple_reads r2 r1 (SeqAt.canLay_of_shaped (d := .tuple ds) se) (SeqAt.canLay_of_shaped sd) (room_in_shaped sd hu) ⟨.bl _, H, I, rfl, q⟩
theorem op_inTK (K : PySem.W.Frag) (hu : X.A.units + 65 < cLine) (h : X.K = K := by rfl) : OpR X (compareOp .In) (rInT K false) := h ▸ op_inT hu
theorem op_notInTK (K : PySem.W.Frag) (hu : X.A.units + 65 < cLine) (h : X.K = K := by rfl) : OpR X (compareOp .NotIn) (rInT K true) := h ▸ op_notInT hu
def wInT (neg : Bool) : DV → DV → DP → Prop := fun d f Q => ∃ x ys, toPy d = some x ∧ toPy f = some (.tuple ys) ∧ SeqAt.shaped x = true ∧ SeqAt.shaped (.tuple ys) = true ∧ Q (.bl (if neg then !(ys.any fun z => PyData.eqv z x) else ys.any fun z => PyData.eqv z x))
theorem d_inT {neg : Bool} : DOp K (rInT K neg) (wInT neg) := fun b M H x y d e Q' Q al hx hy ⟨u, ys, h1, h2, s1, s2, hq⟩ k => ⟨u, ys, dp_of hx h1, dp_of hy h2, s1, s2, k _ H _ (BF.Ex.refl H) (.bl _) hq⟩
/-! l[::-1] -/
def wRevL (wa : WE) : WE := fun τ n Q => wa τ n fun d τ1 n1 => ∃ xs, d = .lst xs ∧ Q (.lst xs.reverse) τ1 n1
theorem ve_revL (h : PE X e (tRevL K (liftE K W wa))) : PE X e (liftE K W (wRevL wa)) := BF.PE.imp h fun σ H Q ⟨Γ, O, τ, n, Q', q, hw, k⟩ => by
  refine ⟨Γ, O, τ, n, _, q, hw, fun v H1 d O1 τ1 n1 q1 d1 ⟨xs, ed, hq⟩ => ?_⟩
  subst ed
  cases d1 with
  | lst a1 a2 => exact ⟨_, _, rfl, SqL.of a1.1, fun p hp => by
      obtain ⟨ex, dd⟩ := new_lst q1.al' hp (DatL.rev a2)
      exact k _ _ _ O1 τ1 n1 (q1.ex ex) dd hq⟩
theorem y_revL (k : wa τ n fun d τ1 n1 => ∃ xs, d = .lst xs ∧ Q (.lst xs.reverse) τ1 n1) : wRevL wa τ n Q := k
/-! with K told -/
theorem cr_srtTK (K : PySem.W.Frag) (h : X.K = K := by rfl) : CallR X (.builtin "sorted") (GA.rSrtT K) := h ▸ GA.cr_srtT
theorem cr_maxK (K : PySem.W.Frag) (hc : X.calm = true := by rfl) (h : X.K = K := by rfl) : CallR X (.builtin "max") (rMax K) := h ▸ cr_max hc
theorem cr_minK' (K : PySem.W.Frag) (hc : X.calm = true := by rfl) (h : X.K = K := by rfl) : CallR X (.builtin "min") (rMin K) := h ▸ cr_min hc
theorem call_tupZK (K : PySem.W.Frag) (h : X.K = K := by rfl) : CallR X (.type "tuple") (GA.rTupZ K) := h ▸ GA.call_tupZ
theorem op_repTK (K : PySem.W.Frag) (h : X.K = K := by rfl) : OpR X (binaryOp .Mult) (rRepT K) := h ▸ op_repT
theorem ix_dctK (K : PySem.W.Frag) (w : World) (h : X.K = K := by rfl) (hw : X.w = w := by rfl) : IxR X (rIxD K w) := h ▸ hw ▸ ix_kdict
theorem mt_tixK (K : PySem.W.Frag) (h : X.K = K := by rfl) : MtR X "tuple.index" (GA.rTIx K) := h ▸ GA.mt_tix
end
end VF
/-! ## lists and tuples walked alike; isinstance, == step by step -/
namespace VF
open PySem PySem.Spec PyProof.Rows L2
/-- what a list or a tuple gives, walked -/
def iSeq (K : PySem.W.Frag) (tl : TE) : TI := fun σ H R => tl σ H fun x H1 => ∃ a, x = .ref a ∧ (((∃ xs, SqL K H1 a xs) ∧ R (Itl K a) H1) ∨ ((∃ xs, SqT K H1 a xs) ∧ R (Itt K a) H1))
theorem pi_seq {X : Cx} {tg l : Expr} {tl : TE} (hl : PE X l tl) : PI X tg l (iSeq X.K tl) := by
  refine ⟨fun pins s σ H R I h => ?_⟩
  refine thn (hl.run pins s σ H _ I h) fun v s1 ⟨x, H1, I1, r1, q1⟩ => ?_
  obtain ⟨a, e, ⟨⟨xs, hq⟩, q⟩ | ⟨⟨xs, hq⟩, q⟩⟩ := q1
  · subst e
    cases r1
    obtain ⟨its, rv, p, hz⟩ := I1.list hq
    refine wpAny_pyIter_list p.isList ?_
    refine ⟨s1.heap.objs.size, [s1.heap.objs.size], _, _, H1, rfl, I1.kept (t' := s1.toks) fun b o e => Heap.get?_push_of_some _ e, turn_list a _, ⟨_, Heap.get?_push_size _ rfl, rfl, rfl⟩, fun b hb => ?_, q⟩
    have e : b = s1.heap.objs.size := by simpa using hb
    subst e
    exact I1.fpOk (Nat.le_refl _) (I1.hok.fresh (Nat.le_refl _))
  · subst e
    cases r1
    obtain ⟨its, rv, p, hz⟩ := I1.tuple hq
    refine wpAny_pyIter_tuple (show s1.heap.IsTuple a its.toArray from p) ?_
    refine ⟨s1.heap.objs.size, [s1.heap.objs.size], _, _, H1, rfl, I1.kept (t' := s1.toks) fun b o e => Heap.get?_push_of_some _ e, turn_tuple a _, ⟨_, Heap.get?_push_size _ rfl, rfl, rfl⟩, fun b hb => ?_, q⟩
    have e : b = s1.heap.objs.size := by simpa using hb
    subst e
    exact I1.fpOk (Nat.le_refl _) (I1.hok.fresh (Nat.le_refl _))
def wISeq (we : WE) : WA := fun τ n Q => we τ n fun d τ1 n1 => ∃ ds, (d = .lst ds ∨ d = .tup ds) ∧ Q ds τ1 n1
theorem vi_seq {K : PySem.W.Frag} {W : Wc} {X : Cx} {we : WE} (hK : X.K = K) {tg l : Expr} (h : PE X l (liftE K W we)) : PI X tg l (liftI K W (wISeq we)) := by
  subst hK
  refine PI.imp (pi_seq h) fun σ H R ⟨Γ, O, τ, n, Q', q, hw, k⟩ => ?_
  refine ⟨Γ, O, τ, n, _, q, hw, fun v H1 d O1 τ1 n1 q1 d1 ⟨ds, ed, hq⟩ => ?_⟩
  rcases ed with ed | ed
  · subst ed
    cases d1 with
    | @lst a vs _ h1 h2 =>
      refine ⟨a, rfl, .inl ⟨⟨vs, SqL.of h1.1⟩, k _ H1 [.l a vs ds] ds O1 τ1 n1 (q1.gcons ⟨h1, h2⟩) ⟨_, _, by rw [← h2.length]; exact walk_list, fun O M H g => SqL.of (g _ List.mem_cons_self).1.1, fun O M H i x H' g _ hi y => ?_⟩ hq⟩⟩
      obtain ⟨rfl, y2⟩ := y
      exact ⟨BF.Ex.refl _, (g _ List.mem_cons_self).2.get y2⟩
  · subst ed
    cases d1 with
    | @tup a vs _ h1 h2 =>
      refine ⟨a, rfl, .inr ⟨⟨vs, h1.1⟩, k _ H1 [.t a vs ds] ds O1 τ1 n1 (q1.gcons ⟨h1, h2⟩) ⟨_, _, by rw [← h2.length]; exact walk_tup, fun O M H g => (g _ List.mem_cons_self).1.1, fun O M H i x H' g _ hi y => ?_⟩ hq⟩⟩
      obtain ⟨rfl, y2⟩ := y
      exact ⟨BF.Ex.refl _, (g _ List.mem_cons_self).2.get y2⟩
theorem y_iseq' {we : WE} {τ : ST} {n : Int} {Q : List DV → ST → Int → Prop} (k : we τ n fun d τ1 n1 => ∃ ds, (d = .lst ds ∨ d = .tup ds) ∧ Q ds τ1 n1) : wISeq we τ n Q := k
theorem y_seqL {ds : List DV} {R : List DV → Prop} (k : R ds) : ∃ es, (DV.lst ds = .lst es ∨ DV.lst ds = .tup es) ∧ R es := ⟨ds, .inl rfl, k⟩
theorem y_seqT {ds : List DV} {R : List DV → Prop} (k : R ds) : ∃ es, (DV.tup ds = .lst es ∨ DV.tup ds = .tup es) ∧ R es := ⟨ds, .inr rfl, k⟩
section
variable {P : DP} {i : Int} {x : Bool} {z : Str} {ds : List DV}
theorem y_i_non_int (k : P (.bl false)) : wIsi [.non, .ty "int"] P := ⟨"NoneType", false, rfl, by decide +kernel, k⟩
theorem y_i_non_bool (k : P (.bl false)) : wIsi [.non, .ty "bool"] P := ⟨"NoneType", false, rfl, by decide +kernel, k⟩
theorem y_i_non_str (k : P (.bl false)) : wIsi [.non, .ty "str"] P := ⟨"NoneType", false, rfl, by decide +kernel, k⟩
theorem y_i_non_list (k : P (.bl false)) : wIsi [.non, .ty "list"] P := ⟨"NoneType", false, rfl, by decide +kernel, k⟩
theorem y_i_non_tuple (k : P (.bl false)) : wIsi [.non, .ty "tuple"] P := ⟨"NoneType", false, rfl, by decide +kernel, k⟩
theorem y_iLT_non (k : P (.bl false)) : wIsiT [.non, .tup [.ty "list", .ty "tuple"]] P := ⟨"NoneType", ["list", "tuple"], false, rfl, rfl, by decide +kernel, k⟩
theorem y_i_bl_int (k : P (.bl true)) : wIsi [(.bl x), .ty "int"] P := ⟨"bool", true, rfl, by decide +kernel, k⟩
theorem y_i_bl_bool (k : P (.bl true)) : wIsi [(.bl x), .ty "bool"] P := ⟨"bool", true, rfl, by decide +kernel, k⟩
theorem y_i_bl_str (k : P (.bl false)) : wIsi [(.bl x), .ty "str"] P := ⟨"bool", false, rfl, by decide +kernel, k⟩
theorem y_i_bl_list (k : P (.bl false)) : wIsi [(.bl x), .ty "list"] P := ⟨"bool", false, rfl, by decide +kernel, k⟩
theorem y_i_bl_tuple (k : P (.bl false)) : wIsi [(.bl x), .ty "tuple"] P := ⟨"bool", false, rfl, by decide +kernel, k⟩
theorem y_iLT_bl (k : P (.bl false)) : wIsiT [(.bl x), .tup [.ty "list", .ty "tuple"]] P := ⟨"bool", ["list", "tuple"], false, rfl, rfl, by decide +kernel, k⟩
theorem y_i_int_int (k : P (.bl true)) : wIsi [(.int i), .ty "int"] P := ⟨"int", true, rfl, by decide +kernel, k⟩
theorem y_i_int_bool (k : P (.bl false)) : wIsi [(.int i), .ty "bool"] P := ⟨"int", false, rfl, by decide +kernel, k⟩
theorem y_i_int_str (k : P (.bl false)) : wIsi [(.int i), .ty "str"] P := ⟨"int", false, rfl, by decide +kernel, k⟩
theorem y_i_int_list (k : P (.bl false)) : wIsi [(.int i), .ty "list"] P := ⟨"int", false, rfl, by decide +kernel, k⟩
theorem y_i_int_tuple (k : P (.bl false)) : wIsi [(.int i), .ty "tuple"] P := ⟨"int", false, rfl, by decide +kernel, k⟩
theorem y_iLT_int (k : P (.bl false)) : wIsiT [(.int i), .tup [.ty "list", .ty "tuple"]] P := ⟨"int", ["list", "tuple"], false, rfl, rfl, by decide +kernel, k⟩
theorem y_i_str_int (k : P (.bl false)) : wIsi [(.str z), .ty "int"] P := ⟨"str", false, rfl, by decide +kernel, k⟩
theorem y_i_str_bool (k : P (.bl false)) : wIsi [(.str z), .ty "bool"] P := ⟨"str", false, rfl, by decide +kernel, k⟩
theorem y_i_str_str (k : P (.bl true)) : wIsi [(.str z), .ty "str"] P := ⟨"str", true, rfl, by decide +kernel, k⟩
theorem y_i_str_list (k : P (.bl false)) : wIsi [(.str z), .ty "list"] P := ⟨"str", false, rfl, by decide +kernel, k⟩
theorem y_i_str_tuple (k : P (.bl false)) : wIsi [(.str z), .ty "tuple"] P := ⟨"str", false, rfl, by decide +kernel, k⟩
theorem y_iLT_str (k : P (.bl false)) : wIsiT [(.str z), .tup [.ty "list", .ty "tuple"]] P := ⟨"str", ["list", "tuple"], false, rfl, rfl, by decide +kernel, k⟩
theorem y_i_lst_int (k : P (.bl false)) : wIsi [(.lst ds), .ty "int"] P := ⟨"list", false, rfl, by decide +kernel, k⟩
theorem y_i_lst_bool (k : P (.bl false)) : wIsi [(.lst ds), .ty "bool"] P := ⟨"list", false, rfl, by decide +kernel, k⟩
theorem y_i_lst_str (k : P (.bl false)) : wIsi [(.lst ds), .ty "str"] P := ⟨"list", false, rfl, by decide +kernel, k⟩
theorem y_i_lst_list (k : P (.bl true)) : wIsi [(.lst ds), .ty "list"] P := ⟨"list", true, rfl, by decide +kernel, k⟩
theorem y_i_lst_tuple (k : P (.bl false)) : wIsi [(.lst ds), .ty "tuple"] P := ⟨"list", false, rfl, by decide +kernel, k⟩
theorem y_iLT_lst (k : P (.bl true)) : wIsiT [(.lst ds), .tup [.ty "list", .ty "tuple"]] P := ⟨"list", ["list", "tuple"], true, rfl, rfl, by decide +kernel, k⟩
theorem y_i_tup_int (k : P (.bl false)) : wIsi [(.tup ds), .ty "int"] P := ⟨"tuple", false, rfl, by decide +kernel, k⟩
theorem y_i_tup_bool (k : P (.bl false)) : wIsi [(.tup ds), .ty "bool"] P := ⟨"tuple", false, rfl, by decide +kernel, k⟩
theorem y_i_tup_str (k : P (.bl false)) : wIsi [(.tup ds), .ty "str"] P := ⟨"tuple", false, rfl, by decide +kernel, k⟩
theorem y_i_tup_list (k : P (.bl false)) : wIsi [(.tup ds), .ty "list"] P := ⟨"tuple", false, rfl, by decide +kernel, k⟩
theorem y_i_tup_tuple (k : P (.bl true)) : wIsi [(.tup ds), .ty "tuple"] P := ⟨"tuple", true, rfl, by decide +kernel, k⟩
theorem y_iLT_tup (k : P (.bl true)) : wIsiT [(.tup ds), .tup [.ty "list", .ty "tuple"]] P := ⟨"tuple", ["list", "tuple"], true, rfl, rfl, by decide +kernel, k⟩
/-- plain data, at most k deep -/
def Pl (k : Nat) (d : DV) : Prop := ∃ x, toPy d = some x ∧ Sh k x
theorem Pl.non {k : Nat} : Pl k .non := ⟨_, rfl, Sh.none⟩
theorem Pl.bl {k : Nat} {b : Bool} : Pl k (.bl b) := ⟨_, rfl, Sh.bool⟩
theorem Pl.int {k : Nat} {i : Int} : Pl k (.int i) := ⟨_, rfl, Sh.int⟩
theorem Pl.str {k : Nat} {z : Str} (h : (PyData.str z).canLay0 = true) : Pl k (.str z) := ⟨_, rfl, Sh.str h⟩
theorem pl_list {k : Nat} : ∀ {ds : List DV}, (∀ d ∈ ds, Pl k d) → ∃ xs, toPyL ds = some xs ∧ ∀ x ∈ xs, Sh k x
  | [], _ => ⟨[], rfl, nofun⟩
  | d :: ds, h => by
    obtain ⟨x, e, s⟩ := h d List.mem_cons_self
    obtain ⟨xs, e2, s2⟩ := pl_list (ds := ds) fun y hy => h y (List.mem_cons_of_mem _ hy)
    exact ⟨x :: xs, by simp only [toPyL, e, e2], fun y hy => (List.mem_cons.mp hy).elim (fun q => q ▸ s) (s2 y)⟩
theorem Pl.lst {k : Nat} (h : ∀ d ∈ ds, Pl k d) : Pl (k + 1) (.lst ds) := by
  obtain ⟨xs, e, s⟩ := pl_list h
  exact ⟨.list xs, by simp only [toPy, e]; rfl, Sh.list s⟩
theorem Pl.tup {k : Nat} (h : ∀ d ∈ ds, Pl k d) : Pl (k + 1) (.tup ds) := by
  obtain ⟨xs, e, s⟩ := pl_list h
  exact ⟨.tuple xs, by simp only [toPy, e]; rfl, Sh.tuple s⟩
theorem sh_mem {k : Nat} : ∀ {xs : List PyData}, PyData.canLayAll0 xs = true → PyData.depthAll xs ≤ k → ∀ x ∈ xs, Sh k x
  | [], _, _ => nofun
  | x :: xs, h1, h2 => fun y hy => by
    simp only [PyData.canLayAll0, Bool.and_eq_true] at h1
    simp only [PyData.depthAll] at h2
    rcases List.mem_cons.mp hy with e | hy
    · rw [e]; exact ⟨h1.1, by omega⟩
    · exact sh_mem h1.2 (by omega) y hy
theorem toPyL_mem : ∀ {ds : List DV} {xs : List PyData}, toPyL ds = some xs → ∀ d ∈ ds, ∃ x ∈ xs, toPy d = some x
  | [], _, _ => nofun
  | d :: ds, xs, e => fun y hy => by
    simp only [toPyL] at e
    cases e1 : toPy d with
    | none => rw [e1] at e; cases e
    | some u =>
      cases e2 : toPyL ds with
      | none => rw [e1, e2] at e; cases e
      | some us =>
        rw [e1, e2] at e
        cases e
        rcases List.mem_cons.mp hy with q | hy
        · exact ⟨u, List.mem_cons_self, by rw [q]; exact e1⟩
        · obtain ⟨v, hv, ev⟩ := toPyL_mem e2 y hy
          exact ⟨v, List.mem_cons_of_mem _ hv, ev⟩
theorem Pl.of_lst {k : Nat} (h : Pl (k + 1) (.lst ds)) : ∀ d ∈ ds, Pl k d := fun d hd => by
  obtain ⟨x, e, s⟩ := h
  simp only [toPy] at e
  obtain ⟨xs, e1, rfl⟩ := Option.map_eq_some_iff.mp e
  obtain ⟨u, hu, eu⟩ := toPyL_mem e1 d hd
  exact ⟨u, eu, sh_mem (by simpa [PyData.canLay0] using s.1) (by have := s.2; simp only [PyData.depth] at this; omega) u hu⟩
theorem Pl.of_tup {k : Nat} (h : Pl (k + 1) (.tup ds)) : ∀ d ∈ ds, Pl k d := fun d hd => by
  obtain ⟨x, e, s⟩ := h
  simp only [toPy] at e
  obtain ⟨xs, e1, rfl⟩ := Option.map_eq_some_iff.mp e
  obtain ⟨u, hu, eu⟩ := toPyL_mem e1 d hd
  exact ⟨u, eu, sh_mem (by simpa [PyData.canLay0] using s.1) (by have := s.2; simp only [PyData.depth] at this; omega) u hu⟩
theorem Pl.no_lst (h : Pl 0 (.lst ds)) : False := by
  obtain ⟨x, e, s⟩ := h
  simp only [toPy] at e
  obtain ⟨xs, e1, rfl⟩ := Option.map_eq_some_iff.mp e
  have := s.2
  simp only [PyData.depth] at this
  omega
theorem Pl.no_tup (h : Pl 0 (.tup ds)) : False := by
  obtain ⟨x, e, s⟩ := h
  simp only [toPy] at e
  obtain ⟨xs, e1, rfl⟩ := Option.map_eq_some_iff.mp e
  have := s.2
  simp only [PyData.depth] at this
  omega
theorem Pl.mono {k l : Nat} {d : DV} (h : Pl k d) (hl : k ≤ l) : Pl l d := by
  obtain ⟨x, e, s⟩ := h
  exact ⟨x, e, s.1, Nat.le_trans s.2 hl⟩
/-- .. == a text -/
def eqS : DV → Str → Bool
  | .str y, z => decide (y = z)
  | _, _ => false
theorem y_eqPS {k : Nat} {d : DV} (h : Pl k d) (hk : k ≤ 64) (hz : (PyData.str z).canLay0 = true) (q : P (.bl (eqS d z))) : wEq false d (.str z) P := by
  obtain ⟨x, e, s⟩ := h
  refine .inr ⟨x, .str z, e, rfl, s.ok hk, (Sh.str (k := 0) hz).ok (by decide), ?_⟩
  have ex : PyData.eqv x (.str z) = eqS d z := by
    cases d with
    | str y =>
      cases e
      simp only [PyData.eqv, eqS]
      by_cases q : y = z
      · rw [q]; simp
      · simp [q]
    | non => cases e; rfl
    | bl b => cases e; rfl
    | int i => cases e; rfl
    | lst es =>
      simp only [toPy] at e
      obtain ⟨xs, _, rfl⟩ := Option.map_eq_some_iff.mp e
      rfl
    | tup es =>
      simp only [toPy] at e
      obtain ⟨xs, _, rfl⟩ := Option.map_eq_some_iff.mp e
      rfl
    | _ => cases e
  simpa [ex] using q
end
end VF
/-! macros: vw (v, and isinstance, walks of lists and tuples) -/
local macro_rules | `(tactic| walk_at "v3") => `(tactic| (with_reducible first | refine' VF.y_iseq' ?_ | refine' VF.y_seqL ?_ | refine' VF.y_seqT ?_ | refine' VF.y_enT ?_ | refine' VF.y_tupZ ?_ | refine' VF.y_lsI ?_ | refine' VF.y_lsT ?_ | refine' VF.y_join ?_ | refine' VF.y_fs ?_ | refine' VF.y_revL ?_ | refine' VF.y_lr1 ?_ | refine' VF.y_lrO ?_ | refine' VF.y_tix ?_ | refine' VF.y_i_non_int ?_ | refine' VF.y_i_non_bool ?_ | refine' VF.y_i_non_str ?_ | refine' VF.y_i_non_list ?_ | refine' VF.y_i_non_tuple ?_ | refine' VF.y_iLT_non ?_ | refine' VF.y_i_bl_int ?_ | refine' VF.y_i_bl_bool ?_ | refine' VF.y_i_bl_str ?_ | refine' VF.y_i_bl_list ?_ | refine' VF.y_i_bl_tuple ?_ | refine' VF.y_iLT_bl ?_ | refine' VF.y_i_int_int ?_ | refine' VF.y_i_int_bool ?_ | refine' VF.y_i_int_str ?_ | refine' VF.y_i_int_list ?_ | refine' VF.y_i_int_tuple ?_ | refine' VF.y_iLT_int ?_ | refine' VF.y_i_str_int ?_ | refine' VF.y_i_str_bool ?_ | refine' VF.y_i_str_str ?_ | refine' VF.y_i_str_list ?_ | refine' VF.y_i_str_tuple ?_ | refine' VF.y_iLT_str ?_ | refine' VF.y_i_lst_int ?_ | refine' VF.y_i_lst_bool ?_ | refine' VF.y_i_lst_str ?_ | refine' VF.y_i_lst_list ?_ | refine' VF.y_i_lst_tuple ?_ | refine' VF.y_iLT_lst ?_ | refine' VF.y_i_tup_int ?_ | refine' VF.y_i_tup_bool ?_ | refine' VF.y_i_tup_str ?_ | refine' VF.y_i_tup_list ?_ | refine' VF.y_i_tup_tuple ?_ | refine' VF.y_iLT_tup ?_))
local macro_rules | `(tactic| walk_at "vw") => `(tactic| repeat (first | ((with_reducible first | refine' VF.y_seq ?_ | refine' VF.y_next ?_ | refine' VF.y_set ?_ | refine' VF.y_setO ?_ | refine' VF.y_asg ?_ | refine' VF.y_par ?_ | refine' VF.y_par2 ?_ | refine' VF.y_parO1 ?_ | refine' VF.y_parO2 ?_ | refine' VF.y_ret ?_ | refine' VF.y_retN ?_ | refine' VF.y_ifS ?_ | refine' VF.y_drop ?_ | refine' VF.y_brk ?_ | refine' VF.y_cnt ?_ | refine' VF.y_setI ?_ | refine' VF.y_for ?_ | refine' VF.y_raise ?_ | refine' VF.y_c ?_ | refine' VF.y_op ?_ | refine' VF.y_un ?_ | refine' VF.y_nil ?_ | refine' VF.y_cons ?_ | refine' VF.y_cb ?_ | refine' VF.y_tup ?_ | refine' VF.y_lst ?_ | refine' VF.y_lstO ?_ | refine' VF.y_B ?_ | refine' VF.y_bl ?_ | refine' VF.y_and ?_ | refine' VF.y_or ?_ | refine' VF.y_not ?_ | refine' VF.y_andV ?_ | refine' VF.y_orV ?_ | refine' VF.y_notV ?_ | refine' VF.y_if ?_ | refine' VF.y_sl ?_ | refine' VF.y_P0 ?_ | refine' VF.y_P1 ?_ | refine' VF.y_int ?_ | refine' VF.y_chain ?_ | refine' VF.y_call ?_ | refine' VF.y_meth ?_ | refine' VF.y_fld ?_ | refine' VF.y_OL ?_ | refine' VF.y_lc ?_ | refine' VF.y_yes ?_ | refine' VF.y_name ?_ | refine' VF.y_gnil ?_ | refine' VF.y_gcons ?_ | refine' VF.y_rng1 ?_ | refine' VF.y_zip ?_ | refine' VF.y_zipL ?_ | refine' VF.y_iL ?_ | refine' VF.y_iT ?_ | refine' VF.y_tru (b := true) ?_ | refine' VF.y_listO ?_ | refine' VF.y_listO1 ?_ | refine' VF.y_listO2 ?_ | refine' VF.y_own2 ?_ | refine' VF.y_own2N ?_ | refine' VF.y_own2b ?_ | refine' VF.y_addI ?_ | refine' VF.y_I0 ?_ | refine' VF.y_IB ?_ | refine' VF.y_neg ?_ | refine' VF.y_slL ?_ | refine' VF.y_slT ?_ | refine' VF.y_lenL ?_ | refine' VF.y_lenT ?_ | refine' VF.y_listL ?_ | refine' VF.y_listT ?_ | refine' VF.y_tupL ?_ | refine' VF.y_tupT ?_ | refine' VF.y_intI ?_ | refine' VF.y_abs ?_ | refine' VF.y_max ?_ | refine' VF.y_min ?_ | refine' VF.y_eqI ?_ | refine' VF.y_neI ?_ | refine' VF.y_eqS ?_ | refine' VF.y_neS ?_ | refine' VF.y_eqB ?_ | refine' VF.y_neB ?_ | refine' BF.x_iteY ?_ | refine' BF.x_iteNo ?_)) | (first | ((with_reducible apply VF.y_nx); ((first | (simp only [List.set_cons_succ, List.set_cons_zero]; done) | (simp only [List.set_cons_succ, List.set_cons_zero]; rfl) | rfl))) | ((with_reducible apply VF.y_nxG); ((first | (simp only [List.set_cons_succ, List.set_cons_zero]; done) | (simp only [List.set_cons_succ, List.set_cons_zero]; rfl) | rfl)))) | (first | ((with_reducible apply VF.y_var); (with_unfolding_all rfl)) | ((with_reducible apply VF.y_varF); (with_unfolding_all rfl)) | ((with_reducible apply VF.y_varO); (with_unfolding_all rfl)) | ((with_reducible apply VF.y_ixL); (with_unfolding_all rfl)) | ((with_reducible apply VF.y_ixT); (with_unfolding_all rfl)) | ((with_reducible apply VF.y_gtup); (with_unfolding_all rfl)) | ((with_reducible apply VF.y_len1); (simp only [List.length_cons, List.length_nil]; omega)) | ((with_reducible apply VF.y_I); ((first | ((with_reducible refine BF.cpow_of ?_ ?_ ?_ ?_) <;> omega) | ((with_reducible refine BF.cmul_of ?_ ?_ ?_ ?_) <;> omega) | ((with_reducible refine BF.cdiv_of ?_ ?_) <;> omega) | (show (0 : Int) < _; omega)))) | ((with_reducible apply VF.y_rng1b); omega; omega) | ((with_reducible apply VF.y_lenO); (with_unfolding_all rfl)) | ((with_reducible apply VF.y_lenD); (with_unfolding_all rfl)) | ((with_reducible apply VF.y_ixVO); (with_unfolding_all rfl)) | ((with_reducible apply VF.y_ixVL); (with_unfolding_all rfl)) | ((with_reducible apply VF.y_app); (with_unfolding_all rfl)) | ((with_reducible apply VF.y_ins); (with_unfolding_all rfl)) | ((with_reducible apply VF.y_setI1); (with_unfolding_all rfl)) | ((with_reducible apply VF.y_fld2); (assumption); (with_unfolding_all rfl)) | ((with_reducible apply VF.y_noOwn); (with_unfolding_all rfl)) | ((with_reducible apply VF.y_wipe); (with_unfolding_all rfl)) | ((with_reducible apply VF.y_acc); (assumption)) | ((with_reducible apply VF.y_tru1); (with_unfolding_all rfl))) | ((with_reducible first | refine' VF.y_iseq' ?_ | refine' VF.y_seqL ?_ | refine' VF.y_seqT ?_ | refine' VF.y_enT ?_ | refine' VF.y_tupZ ?_ | refine' VF.y_lsI ?_ | refine' VF.y_lsT ?_ | refine' VF.y_join ?_ | refine' VF.y_fs ?_ | refine' VF.y_revL ?_ | refine' VF.y_lr1 ?_ | refine' VF.y_lrO ?_ | refine' VF.y_tix ?_ | refine' VF.y_i_non_int ?_ | refine' VF.y_i_non_bool ?_ | refine' VF.y_i_non_str ?_ | refine' VF.y_i_non_list ?_ | refine' VF.y_i_non_tuple ?_ | refine' VF.y_iLT_non ?_ | refine' VF.y_i_bl_int ?_ | refine' VF.y_i_bl_bool ?_ | refine' VF.y_i_bl_str ?_ | refine' VF.y_i_bl_list ?_ | refine' VF.y_i_bl_tuple ?_ | refine' VF.y_iLT_bl ?_ | refine' VF.y_i_int_int ?_ | refine' VF.y_i_int_bool ?_ | refine' VF.y_i_int_str ?_ | refine' VF.y_i_int_list ?_ | refine' VF.y_i_int_tuple ?_ | refine' VF.y_iLT_int ?_ | refine' VF.y_i_str_int ?_ | refine' VF.y_i_str_bool ?_ | refine' VF.y_i_str_str ?_ | refine' VF.y_i_str_list ?_ | refine' VF.y_i_str_tuple ?_ | refine' VF.y_iLT_str ?_ | refine' VF.y_i_lst_int ?_ | refine' VF.y_i_lst_bool ?_ | refine' VF.y_i_lst_str ?_ | refine' VF.y_i_lst_list ?_ | refine' VF.y_i_lst_tuple ?_ | refine' VF.y_iLT_lst ?_ | refine' VF.y_i_tup_int ?_ | refine' VF.y_i_tup_bool ?_ | refine' VF.y_i_tup_str ?_ | refine' VF.y_i_tup_list ?_ | refine' VF.y_i_tup_tuple ?_ | refine' VF.y_iLT_tup ?_)) | (first | with_reducible refine' BF.x_iteT (by with_unfolding_all rfl) ?_ | with_reducible refine' BF.x_iteF (by with_unfolding_all rfl) ?_ | with_reducible refine' BF.x_iteT (decide_eq_true rfl) ?_)))
/-! ## The bag -/
namespace BF
open PySem PySem.Spec PyProof.Rows L2
/-- the bag at b: its script at sc; at most n draws so far -/
structure Bag (K : PySem.W.Frag) (b sc : Addr) (ns : List Int) (H : Hp) (n : Int) : Prop where
  scr : H sc = some (.lst (ns.map V.int))
  ne : sc ≠ b
  obj : ∃ i r m c : Int, H b = some (.lst [.ref sc, .int i, .int r, .int m, .int c]) ∧ 0 ≤ i ∧ 0 ≤ r ∧ 0 ≤ m ∧ m < 2147483629 ∧ 0 ≤ c ∧ c ≤ n
theorem Bag.ex {K : PySem.W.Frag} {b sc : Addr} {ns : List Int} {H H' : Hp} {n : Int} {M : List Addr} (h : Bag K b sc ns H n) (e : Ex M H H') (h1 : sc ∉ M) (h2 : b ∉ M) : Bag K b sc ns H' n := by
  obtain ⟨s, ne, i, r, m, c, hb, q⟩ := h
  exact ⟨e _ _ h1 s, ne, i, r, m, c, e _ _ h2 hb, q⟩

def spDraw (K : PySem.W.Frag) : Sp := fun vs H Q _ => ∃ (b sc : Addr) (ns : List Int) (n k : Int), vs = [.ref b, .int k] ∧ Bag K b sc ns H n ∧ n ≤ 1000000 ∧ 0 < k ∧ k < 1073741824 ∧
  ∀ (m : Int) (H' : Hp), 0 ≤ m → m < k → Ex [b] H H' → Bag K b sc ns H' (n + 1) → Q (.int m) H'
section
variable {P : Program} {w : World} {K : PySem.W.Frag} {mg : Str → Option Value} {base : Heap}
theorem sc__law_draw : FnScope ["_law_bag_here", "_law_many", "_law_item", "_law_digit"] ["_law_bag_here", "_law_many"] (defScope s__law_draw) := ⟨rfl, rfl, rfl, by decide +kernel, rfl, by decide +kernel, by decide +kernel⟩
theorem ok__law_draw (T : TT K mg) : FnOk P w K mg base CX0 1 (He.ga K "_law_draw") (fdOf K ("_law_draw", none)) ["_law_bag_here", "_law_many"] (spDraw K) := by
  refine (F__law_draw T).ok sc__law_draw (fun vs H Q E h => ?_) (fun cdv A outer s H vs Q E hr h => ⟨_, PSs.nox ((pss_cons (ps_asg (pe_op (op_addUK K) (pe_ix (ix_LTK K) (pv 0) pe_int (fun _ _ => rfl)) pe_int) (pg_sub (pv 0) pe_int set_list))
  (C8.pss_cut (ps_if (PW.pt (pw_and (pt_cmpR op_eq (pe_ix (ix_LTK K) (pv 0) pe_int (fun _ _ => rfl)) pe_int (nomark _)) (pw_and1 (pt_cmpR op_lt (pe_ix (ix_LTK K) (pv 0) pe_int (fun _ _ => rfl)) (pe_callB (call_lenLTK K) (by rfl) (T.free "len" rfl) boot_len (pa_cons (pe_ix (ix_LTK K) (pv 0) pe_int (fun _ _ => rfl)) pa_nil)) (nomark _))))) (pss_cons (ps_set (i := 2) sc__law_draw.nd rfl (Or.inl rfl) (pe_ix (ix_LTK K) (pe_ix (ix_LTK K) (pv 0) pe_int (fun _ _ => rfl)) (pe_ix (ix_LTK K) (pv 0) pe_int (fun _ _ => rfl)) (fun _ _ => rfl)))
  (pss_cons (ps_asg (pe_op (op_addUK K) (pe_ix (ix_LTK K) (pv 0) pe_int (fun _ _ => rfl)) pe_int) (pg_sub (pv 0) pe_int set_list))
  (pss_one (ps_if (pt_cmpR op_ge (pv 2) (pe_op op_pow pe_int pe_int) (nomark _)) (pss_one (ps_asg (pv 2) (pg_sub (pv 0) pe_int set_list))) (pss_one (ps_asg (pe_op op_mod (pe_callTy call_intX (by rfl) (T.free "int" rfl) boot_int (pa_cons (pe_op (op_addUK K) (pe_op (op_addUK K) (pe_op op_mulW (pe_ix (ix_LTK K) (pv 0) pe_int (fun _ _ => rfl)) pe_int) (pe_op op_mulW (pe_op op_mod (pe_callTy call_intX (by rfl) (T.free "int" rfl) boot_int (pa_cons (pv 2) pa_nil)) pe_int) pe_int)) pe_int) pa_nil)) pe_int) (pg_sub (pv 0) pe_int set_list))))))) pss_nil)
  (pss_cons (ps_if (pt_cmpR op_gt (pe_ix (ix_LTK K) (pv 0) pe_int (fun _ _ => rfl)) pe_int (nomark _)) (pss_cons (ps_set (i := 3) sc__law_draw.nd rfl (Or.inl rfl) (pe_op op_mod (pe_callTy call_intX (by rfl) (T.free "int" rfl) boot_int (pa_cons (pe_ix (ix_LTK K) (pv 0) pe_int (fun _ _ => rfl)) pa_nil)) (pv 1)))
  (pss_cons (ps_asg (pe_op op_fdivW (pe_ix (ix_LTK K) (pv 0) pe_int (fun _ _ => rfl)) (pv 1)) (pg_sub (pv 0) pe_int set_list))
  (pss_one (ps_ret (pv 3))))) pss_nil)
  (pss_cons (ps_asg (pe_op op_mod (pe_callTy call_intX (by rfl) (T.free "int" rfl) boot_int (pa_cons (pe_op (op_addUK K) (pe_op (op_addUK K) (pe_op op_pow (pe_ix (ix_LTK K) (pv 0) pe_int (fun _ _ => rfl)) pe_int) (pe_op op_mulW (pe_ix (ix_LTK K) (pv 0) pe_int (fun _ _ => rfl)) pe_int)) pe_int) pa_nil)) pe_int) (pg_sub (pv 0) pe_int set_list))
  (pss_one (ps_ret (pe_op op_mod (pe_callTy call_intX (by rfl) (T.free "int" rfl) boot_int (pa_cons (pe_op (op_addUK K) (pe_op op_fdivW (pe_ix (ix_LTK K) (pv 0) pe_int (fun _ _ => rfl)) pe_int) (pe_op op_mulW (pe_op op_mod (pe_callTy call_intX (by rfl) (T.free "int" rfl) boot_int (pa_cons (pe_ix (ix_LTK K) (pv 0) pe_int (fun _ _ => rfl)) pa_nil)) pe_int) pe_int)) pa_nil)) (pv 1))))))))), ?_⟩)
  · obtain ⟨b, sc, ns, n, k, rfl, _⟩ := h
    rfl
  · obtain ⟨b, sc, ns, n, k, rfl, hb, hn, hk0, hk, hQ⟩ := h
    obtain ⟨hs, ne, i, r, m, c, hob, q1, q2, q3, q4, q5, q6⟩ := hb
    walk_at "in"
    walk_at "gg"
    refine ⟨fun σ' H' => ∃ (o : Option V) (i r m c : Int), σ' = [some (.ref b), some (.int k), o, none] ∧ H' b = some (.lst [.ref sc, .int i, .int r, .int m, .int c]) ∧ 0 ≤ i ∧ 0 ≤ r ∧ 0 ≤ m ∧ m < 2147483629 ∧ 0 ≤ c ∧ c ≤ n + 1 ∧ Ex [b] H H', ?_, ?_⟩
    · walk_at "gg"
      refine x_ite (fun h1 => ?_) (fun h1 => ?_)
      · walk_at "gg"
        refine x_ite (fun h2 => ?_) (fun h2 => ?_)
        · walk_at "gg"
          obtain ⟨z, hz, ha⟩ := atI_ints q1 h2
          refine x_ixL (by walk_at "lk") ha ?_
          walk_at "gg"
          refine x_ite (fun h3 => ?_) (fun h3 => ?_)
          · simp only [Int.reduceToNat, Int.reducePow] at h3
            walk_at "gg"
            exact ⟨some (.int z), i + 1, z, m, c + 1, rfl, by assumption, by omega, by omega, q3, q4, by omega, by omega, by walk_at "ex"⟩
          · walk_at "gg"
            exact ⟨some (.int z), i + 1, r, _, c + 1, rfl, by assumption, by omega, by omega, by omega, by omega, by omega, by omega, by walk_at "ex"⟩
        · walk_at "gg"
          exact ⟨none, i, r, m, c + 1, rfl, by assumption, q1, q2, q3, q4, by omega, by omega, by walk_at "ex"⟩
      · walk_at "gg"
        exact ⟨none, i, r, m, c + 1, rfl, by assumption, q1, q2, q3, q4, by omega, by omega, by walk_at "ex"⟩
    · rintro σ' H' ⟨o, i, r, m, c, rfl, hob', q1, q2, q3, q4, q5, q6, e'⟩
      walk_at "gg"
      refine x_ite (fun h1 => ?_) (fun h1 => ?_)
      · walk_at "gg"
        refine hQ _ _ (Int.emod_nonneg _ (by omega)) (Int.emod_lt_of_pos _ hk0) (by walk_at "ex") ⟨by walk_at "lk1", ne, i, r / k, m, c, by assumption, q1, Int.ediv_nonneg q2 (by omega), q3, q4, q5, q6⟩
      · walk_at "gg"
        refine hQ _ _ (Int.emod_nonneg _ (by omega)) (Int.emod_lt_of_pos _ hk0) (by walk_at "ex") ⟨by walk_at "lk1", ne, i, r, _, c, by assumption, q1, q2, by omega, by omega, q5, q6⟩
/-- the bag's making -/
def spBag (K : PySem.W.Frag) : Sp := fun vs H Q _ => ∃ (a : Addr) (ns : List Int), vs = [.ref a] ∧ SqL K H a (ns.map V.int) ∧
  ∀ (b sc : Addr) (ms : List Int) (H' : Hp), H b = none → H sc = none → Ex [] H H' → Bag K b sc ms H' 0 → Q (.ref b) H'
theorem cut_ints (ns : List Int) (lo hi : Option Int) : ∃ ms : List Int, cutV (ns.map V.int) lo hi = ms.map V.int ∧ ms.length ≤ ns.length := by
  unfold cutV
  rw [← List.map_drop, ← List.map_take]
  refine ⟨_, rfl, ?_⟩
  rw [List.length_take, List.length_drop]
  omega
theorem sc__law_bag : FnScope ["_law_script", "_law_seed", "_law_item"] ["_law_script"] (defScope s__law_bag) := ⟨rfl, rfl, rfl, by decide +kernel, rfl, by decide +kernel, by decide +kernel⟩
theorem ok__law_bag (T : TT K mg) : FnOk P w K mg base CX0 1 (He.ga K "_law_bag") (fdOf K ("_law_bag", none)) ["_law_script"] (spBag K) := by
  refine (F__law_bag T).ok sc__law_bag (fun vs H Q E h => ?_) (fun cdv A outer s H vs Q E hr h => ⟨_, PSs.nox ((pss_cons (ps_set (i := 1) sc__law_bag.nd rfl (Or.inl rfl) pe_int)
  (pss_cons (ps_for PassesOwn.never rfl (pi_list (pe_slice (sl_listK K) (pv 0) po_none (po_some pe_int))) (pg_name (i := 2) sc__law_bag.nd rfl (Or.inl rfl)) (pss_one (ps_set (i := 1) sc__law_bag.nd rfl (Or.inl rfl) (pe_op op_mod (pe_callTy call_intX (by rfl) (T.free "int" rfl) boot_int (pa_cons (pe_op (op_addUK K) (pe_op (op_addUK K) (pe_op op_mulW (pv 1) pe_int) (pe_op op_mod (pe_callTy call_intX (by rfl) (T.free "int" rfl) boot_int (pa_cons (pv 2) pa_nil)) pe_int)) pe_int) pa_nil)) pe_int))))
  (pss_one (ps_ret (pe_lstE (pa_cons (pe_callTy (call_listLTK K) (by rfl) (T.free "list" rfl) boot_list (pa_cons (pe_slice (sl_listK K) (pv 0) po_none (po_some pe_int)) pa_nil)) (pa_cons pe_int (pa_cons pe_int (pa_cons (pv 1) (pa_cons pe_int pa_nil))))))))))), ?_⟩)
  · obtain ⟨a, ns, rfl, _⟩ := h
    rfl
  · obtain ⟨a, ns, rfl, ha, hQ⟩ := h
    walk_at "in"
    walk_at "gg"
    rename_i p H1 hp e1 hl
    obtain ⟨ms, hms, _⟩ := cut_ints ns none (some 63)
    rw [hms] at hl
    refine for_it (walk_list (xs := ms.map V.int)) (fun i σ H' => ∃ (m : Int) (o : Option V), σ = [some (.ref a), some (.int m), o] ∧ 0 ≤ m ∧ m < 2147483629 ∧ Ex [] H1 H') ⟨12046, none, rfl, by decide, by decide, Ex.refl _⟩ ?_ ?_ ?_
    · rintro i σ H' _ ⟨m, o, rfl, h0, h1, e⟩
      exact sql_ex e (by simp) (sql_of hl)
    · rintro i x σ H' H'' hi ⟨m, o, rfl, h0, h1, e⟩ ⟨rfl, hx⟩
      rw [List.getElem?_map] at hx
      obtain ⟨z, hz, rfl⟩ := Option.map_eq_some_iff.mp hx
      walk_at "gg"
      exact ⟨_, _, rfl, Int.emod_nonneg _ (by decide), Int.emod_lt_of_pos _ (by decide), e⟩
    · rintro σ H' ⟨m, o, rfl, h0, h1, e⟩
      have ha' : SqL K H' a (ns.map V.int) := sql_ex e (by simp) (sql_ex e1 (by simp) ha)
      walk_at "gg"
      rename_i p2 H2 hp2 e2 hl2 sc H3 hsc e3 hl3 b H4 hb e4 hl4
      obtain ⟨ms', hms', _⟩ := cut_ints ns none (some 63)
      rw [hms'] at hl3 hl2
      have hne : sc ≠ b := ne_of_none hl3 hb
      have es : Ex [] H H' := by walk_at "ex"
      have es2 : Ex [] H H2 := by walk_at "ex"
      have es3 : Ex [] H H3 := by walk_at "ex"
      exact hQ b sc ms' H4 (es3.free (by simp) hb) (es2.free (by simp) hsc) (by walk_at "ex") ⟨by walk_at "lk1", hne, 0, 0, m, 0, hl4, by decide, by decide, h0, h1, by decide, by decide⟩
/-- an item of a list, or of a tuple: what the bag tells -/
def spOf (K : PySem.W.Frag) : Sp := fun vs H Q _ => ∃ (b sc l : Addr) (ns : List Int) (n : Int) (xs : List V), vs = [.ref b, .ref l] ∧ Bag K b sc ns H n ∧ n ≤ 1000000 ∧ (SqL K H l xs ∨ SqT K H l xs) ∧ l ≠ b ∧ 0 < xs.length ∧ xs.length < 1000000 ∧
  ∀ (i : Nat) (v : V) (H' : Hp), xs[i]? = some v → Ex [b] H H' → Bag K b sc ns H' (n + 1) → Q v H'
theorem sc__law_of : FnScope ["_law_bag_here", "_law_things"] ["_law_bag_here", "_law_things"] (defScope s__law_of) := ⟨rfl, rfl, rfl, by decide +kernel, rfl, by decide +kernel, by decide +kernel⟩
theorem ok__law_of (T : TT K mg) : FnOk P w K mg base CX0 2 (He.ga K "_law_of") (fdOf K ("_law_of", none)) ["_law_bag_here", "_law_things"] (spOf K) := by
  refine (F__law_of T).ok sc__law_of (fun vs H Q E h => ?_) (fun cdv A outer s H vs Q E hr h => ⟨_, PSs.nox ((pss_one (ps_ret (pe_ix (ix_LTK K) (pv 1) (pe_call (ok__law_draw T) (hr.mono (by decide)) (by rfl) (T.glo "_law_draw" rfl) (F__law_draw T).kp (B__law_draw T) .nil pass0 (pa_cons (pv 0) (pa_cons (pe_callB (call_lenLTK K) (by rfl) (T.free "len" rfl) boot_len (pa_cons (pv 1) pa_nil)) pa_nil))) (fun _ _ => rfl))))), ?_⟩)
  · obtain ⟨b, sc, l, ns, n, xs, rfl, _⟩ := h
    rfl
  · obtain ⟨b, sc, l, ns, n, xs, rfl, hb, hn, hl, hlb, h0, h1, hQ⟩ := h
    walk_at "in"
    walk_at "gg"
    refine ⟨l, xs, rfl, hl, ?_⟩
    walk_at "gg"
    refine ⟨b, sc, ns, n, _, rfl, hb, hn, by omega, by omega, fun m H' m0 m1 e hb' => ?_⟩
    have hm : m.toNat < xs.length := by omega
    have ha : atI xs m = some xs[m.toNat] := by
      have q := atI_nat (List.getElem?_eq_getElem hm)
      rw [Int.toNat_of_nonneg m0] at q
      exact q
    rcases hl with hl | hl
    · refine x_ixL (sql_ex e (by simpa using hlb) hl) ha ?_
      exact hQ m.toNat _ H' (List.getElem?_eq_getElem hm) e hb'
    · refine x_ixT (sqt_ex e (by simpa using hlb) hl) ha ?_
      exact hQ m.toNat _ H' (List.getElem?_eq_getElem hm) e hb'
end
end BF
/-! ## The bag by data; numbers of the law's own -/
namespace BF
open PySem PySem.Spec PyProof.Rows L2 VF
def tabs (K : PySem.W.Frag) : List (Addr × Str) := [((He.cT K ("_law_judged", none)).2, "_law_judged" ++ ".<locals>." ++ "<lambda>"), ((He.cT K ("law", none)).2, "law" ++ ".<locals>." ++ "<lambda>")]
section
variable {K : PySem.W.Frag} {H H1 : Hp} {b sc : Addr} {ns : List Int} {n : Int}
def bagC (K : PySem.W.Frag) (b sc : Addr) (ns : List Int) : Cf where
  b := b
  bx := [b, sc]
  B := fun H n => Bag K b sc ns H n
  Bk := fun {H H' n} k h => by
    obtain ⟨s, ne, i, r, m, c, hb, q⟩ := h
    exact ⟨k sc _ (by simp) s, ne, i, r, m, c, k b _ (by simp) hb, q⟩
  bb := by simp
  Ba := fun {H n} h x hx => by
    obtain ⟨s, ne, i, r, m, c, hb, q⟩ := h
    rcases List.mem_cons.mp hx with rfl | hx
    · exact ⟨_, hb, nofun⟩
    · rw [List.mem_singleton.mp hx]
      exact ⟨_, s, nofun⟩
  T := tabs K
def Cs (K : PySem.W.Frag) (C : Cf) : Prop := ∃ b sc ns, C = bagC K b sc ns
/-- behind a step that changes the bag alone -/
theorem bag_post {M : List Addr} {m : Int} (bag : Bag K b sc ns H m) (t : LamX.Tabs (tabs K) H) (al : AlN M H) (e : Ex [b] H H1) (hb : Bag K b sc ns H1 n) : Post (bagC K b sc ns) M H H1 n := by
  obtain ⟨s, ne, i, r, m', c, ho, q⟩ := bag
  refine ⟨Ey.ex e, fun x hx => ?_, hb, tabs_ex ho e t⟩
  obtain ⟨o, h, z⟩ := al x hx
  by_cases k : x = b
  · subst k
    obtain ⟨_, _, _, _, _, _, h', _⟩ := hb
    exact ⟨_, h', .inl ⟨_, rfl⟩⟩
  · exact ⟨o, e _ _ (by simpa using k) h, z⟩
/-- behind a step that changes nothing -/
theorem post0 {C : Cf} {M : List Addr} (hb : C.B H n) (t : LamX.Tabs C.T H) (al : AlN M H) (e : Ex [] H H1) : Post C M H H1 n :=
  ⟨Ey.ex0 e, fun x hx => by
    obtain ⟨o, h, z⟩ := al x hx
    exact ⟨o, e _ _ (by simp) h, z⟩, C.Bk (fun x o _ h => e _ _ (by simp) h) hb, tabs_ex0 e t⟩
variable {P : Program} {w : World} {mg : Str → Option Value} {base : Heap}
def sDraw : DSp := fun ds n Q _ => ∃ k : Int, ds = [.bag, .int k] ∧ n ≤ 1000000 ∧ 0 < k ∧ k < 1073741824 ∧ ∀ m, 0 ≤ m → m < k → Q (.int m) (n + 1)
theorem v__law_draw (T : TT K mg) : FnOk P w K mg base CX0 1 (He.ga K "_law_draw") (fdOf K ("_law_draw", none)) ["_law_bag_here", "_law_many"] (liftSp K (Cs K) sDraw) := (ok__law_draw T).imp fun vs H Q E h => by
  obtain ⟨C, M, n, ds, Q', E', ⟨b, sc, ns, rfl⟩, hb, al, bag, tab, hd, ⟨k, rfl, h1, h2, h3, hq⟩, hQ, _⟩ := h
  cases hd with
  | cons d1 d2 =>
    cases d1
    cases d2 with
    | cons d1 d2 =>
      cases d1
      cases d2
      exact ⟨b, sc, ns, n, k, rfl, bag, h1, h2, h3, fun m H' m0 m1 e hb' => hQ (.int m) H' (.int m) (n + 1) (bag_post bag tab al e hb') (.int m) (hq m m0 m1)⟩
/-- an item -/
def sOf : DSp := fun ds n Q _ => ∃ xs : List VF.DV, (ds = [.bag, .lst xs] ∨ ds = [.bag, .tup xs]) ∧ n ≤ 999999 ∧ 0 < xs.length ∧ xs.length < 1000000 ∧ ∀ (i : Nat) x, xs[i]? = some x → Q x (n + 1)
theorem v__law_of (T : TT K mg) : FnOk P w K mg base (L2.CX P w) 2 (He.ga K "_law_of") (fdOf K ("_law_of", none)) ["_law_bag_here", "_law_things"] (liftSp K (Cs K) sOf) := by
  refine v_ok (F__law_of T) sc__law_of (by decide) (by decide) ?_ (fun cdv A outer s H W ds n Q' hC hE hr h => ⟨_, (vss_one (vs_ret (ps_ret (ve_ix (ix_LTK K) d_ix (ve_var (pv 1)) (ve_call hC hE (pe_call (v__law_draw T) (hr.mono (by decide)) (by rfl) (T.glo "_law_draw" rfl) (F__law_draw T).kp (B__law_draw T) .nil pass0 (va_cons (ve_var (pv 0)) (va_cons (ve_cb (pe_callB (call_lenK K) (by rfl) (T.free "len" rfl) boot_len (va_cons (ve_var (pv 1)) va_nil)) d_len) va_nil))) (fun _ _ _ => .nil)) (fun _ _ => rfl))))), ?_⟩)
  · rintro ds n Q E ⟨xs, rfl | rfl, _⟩ <;> rfl
  · obtain ⟨xs, hd, hn, h0, h1, hq⟩ := h
    have key : ∀ m : Int, 0 ≤ m → m < xs.length → ∃ x, atI xs m = some x ∧ Q' x (n + 1) := fun m m0 m1 => by
      have hm : m.toNat < xs.length := by omega
      have q := atI_nat (List.getElem?_eq_getElem hm)
      rw [Int.toNat_of_nonneg m0] at q
      exact ⟨_, q, hq _ _ (List.getElem?_eq_getElem hm)⟩
    rcases hd with rfl | rfl
    · walk_at "v"
      refine ⟨_, rfl, by omega, by omega, by omega, fun m m0 m1 => ?_⟩
      exact key m m0 m1
    · walk_at "v"
      refine ⟨_, rfl, by omega, by omega, by omega, fun m m0 m1 => ?_⟩
      exact key m m0 m1
theorem y_draw {n : Int} {k : Int} {Q : VF.DV → Int → Prop} {E : XV} (h : n ≤ 1000000) (h0 : 0 < k) (h1 : k < 1073741824) (hq : ∀ m, 0 ≤ m → m < k → Q (.int m) (n + 1)) : sDraw ([.bag, .int k] ++ []) n Q E := ⟨k, rfl, h, h0, h1, hq⟩
theorem y_of {n : Int} {xs : List VF.DV} {Q : VF.DV → Int → Prop} {E : XV} (h : n ≤ 999999) (h0 : 0 < xs.length) (h1 : xs.length < 1000000) (hq : ∀ (i : Nat) x, xs[i]? = some x → Q x (n + 1)) : sOf ([.bag, .lst xs] ++ []) n Q E := ⟨xs, .inl rfl, h, h0, h1, hq⟩
end
end BF
/-! ## The program's judging defs by data -/
namespace BF
open PySem PySem.Spec PyProof.Rows L2 VF
/-- a number within bounds -/
def numB : VF.DV → Int → Int → Bool
  | .int i, lo, hi => decide (lo ≤ i) && decide (i ≤ hi)
  | _, _, _ => false
def seqOf : VF.DV → Option (List VF.DV)
  | .lst ds => some ds
  | .tup ds => some ds
  | _ => none
def sizesB (d : VF.DV) : Bool := match seqOf d with
  | some ds => decide (1 ≤ ds.length ∧ ds.length ≤ 6) && ds.all (numB · 1 64)
  | none => false
def tupB (d : VF.DV) (p : List VF.DV → Bool) : Bool := match d with
  | .tup ds => p ds
  | _ => false
def valsB (d : VF.DV) (c s : Int) : Bool := tupB d fun ds => decide ((ds.length : Int) = c) && ds.all (numB · 0 (s - 1))
def prod : List Int → Int
  | [] => 1
  | x :: xs => x * prod xs
theorem y_LT {k : Nat} {d : VF.DV} {r : Bool} {P : DP} (h : Pl k d) (e : (seqOf d).isSome = r) (q : P (.bl r)) : wIsiT [d, .tup [.ty "list", .ty "tuple"]] P := by
  obtain ⟨x, hx, _⟩ := h
  subst e
  cases d with
  | non => exact y_iLT_non q
  | bl b => exact y_iLT_bl q
  | int i => exact y_iLT_int q
  | str z => exact y_iLT_str q
  | lst es => exact y_iLT_lst q
  | tup es => exact y_iLT_tup q
  | _ => cases hx
theorem y_lenS {d : VF.DV} {es : List VF.DV} {P : DP} (e : seqOf d = some es) (q : P (.int (es.length : Int))) : wLen [d] P := by
  cases d <;> cases e <;> exact q
theorem y_seqD {d : VF.DV} {es : List VF.DV} {R : List VF.DV → Prop} (e : seqOf d = some es) (q : R es) : ∃ fs, (d = .lst fs ∨ d = .tup fs) ∧ R fs := by
  cases d <;> cases e
  · exact ⟨_, .inl rfl, q⟩
  · exact ⟨_, .inr rfl, q⟩
theorem seq_pl {k : Nat} {d : VF.DV} {es : List VF.DV} (h : Pl (k + 1) d) (e : seqOf d = some es) : ∀ x ∈ es, Pl k x := by
  cases d <;> cases e
  · exact h.of_lst
  · exact h.of_tup
theorem all_take {α : Type} {p : α → Bool} {l : List α} {i : Nat} {x : α} (h : l[i]? = some x) : (l.take (i + 1)).all p = ((l.take i).all p && p x) := by
  rw [List.take_succ, h, List.all_append]
  simp
theorem all_bad {α : Type} {p : α → Bool} {l : List α} {i : Nat} {x : α} (h : l[i]? = some x) (hp : p x = false) : l.all p = false := by
  cases e : l.all p with
  | false => rfl
  | true =>
    rw [List.all_eq_true.mp e x (List.mem_of_getElem? h)] at hp
    cases hp
section
variable {P : Program} {w : World} {K : PySem.W.Frag} {mg : Str → Option Value} {base : Heap}
def sNum : DSp := fun ds n Q _ => ∃ d lo hi, ds = [d, .int lo, .int hi] ∧ Pl 8 d ∧ Q (.bl (numB d lo hi)) n
theorem sc_is_number : FnScope ["value", "least", "most"] ["value", "least", "most"] (defScope s_is_number) := ⟨rfl, rfl, rfl, by decide +kernel, rfl, by decide +kernel, by decide +kernel⟩
theorem v_is_number (T : TT K mg) : FnOk P w K mg base (L2.CX P w) 1 (He.ga K "is_number") (fdOf K ("is_number", none)) ["value", "least", "most"] (liftSp K (Cs K) sNum) := by
  refine v_ok (F_is_number T) sc_is_number (by decide) (by decide) ?_ (fun cdv A outer s H W ds n Q' hC hE hr h => ⟨_, (vss_one (vs_ret (ps_ret (ve_and (ve_cb (pe_callB (call_isiK' K) (by rfl) (T.free "isinstance" rfl) boot_isinstance (va_cons (ve_var (pv 0)) (va_cons (ve_ty (pe_bltn (v := .ty "int") (by rfl) (T.free "int" rfl) boot_int rfl)) va_nil))) d_isi) (ve_and (ve_not (ve_cb (pe_callB (call_isiK' K) (by rfl) (T.free "isinstance" rfl) boot_isinstance (va_cons (ve_var (pv 0)) (va_cons (ve_ty (pe_bltn (v := .ty "bool") (by rfl) (T.free "bool" rfl) boot_bool rfl)) va_nil))) d_isi)) (pe_one (ve_chain op_le op_le d_IB d_IB (ve_var (pv 1)) (ve_var (pv 0)) (ve_var (pv 2))))))))), ?_⟩)
  · rintro ds n Q E ⟨d, lo, hi, rfl, _⟩; rfl
  · obtain ⟨d, lo, hi, rfl, ⟨x, hx, _⟩, hq⟩ := h
    walk_at "vin"
    cases d with
    | int i =>
      walk_at "vw"
      by_cases h1 : lo ≤ i
      · simp only [h1, decide_true, if_true]
        walk_at "vw"
        simpa [numB, h1] using hq
      · simp only [h1, decide_false, if_false]
        walk_at "vw"
        simpa [numB, h1] using hq
    | non => walk_at "vw"; exact hq
    | bl b => walk_at "vw"; exact hq
    | str z => walk_at "vw"; exact hq
    | lst es => walk_at "vw"; exact hq
    | tup es => walk_at "vw"; exact hq
    | _ => cases hx
theorem y_num {d : VF.DV} {lo hi n : Int} {Q : VF.DV → Int → Prop} {E : XV} (h : Pl 8 d) (q : Q (.bl (numB d lo hi)) n) : sNum ([d, .int lo, .int hi] ++ []) n Q E := ⟨d, lo, hi, rfl, h, q⟩
def sSizes : DSp := fun ds n Q _ => ∃ d, ds = [d] ∧ Pl 8 d ∧ Q (.bl (sizesB d)) n
theorem sc_is_sizes : FnScope ["value", "size"] ["value"] (defScope s_is_sizes) := ⟨rfl, rfl, rfl, by decide +kernel, rfl, by decide +kernel, by decide +kernel⟩
theorem v_is_sizes (T : TT K mg) : FnOk P w K mg base (L2.CX P w) 2 (He.ga K "is_sizes") (fdOf K ("is_sizes", none)) ["value"] (liftSp K (Cs K) sSizes) := by
  refine v_ok (F_is_sizes T) sc_is_sizes (by decide) (by decide) ?_ (fun cdv A outer s H W ds n Q' hC hE hr h => ⟨_, (vss_cons (vs_if (PW.pt (vw_or (vt_not (vt_val (ve_cb (pe_callB (call_isiS K) (by rfl) (T.free "isinstance" rfl) boot_isinstance (va_cons (ve_var (pv 0)) (va_cons (ve_tup (va_cons (ve_ty (pe_bltn (v := .ty "list") (by rfl) (T.free "list" rfl) boot_list rfl)) (va_cons (ve_ty (pe_bltn (v := .ty "tuple") (by rfl) (T.free "tuple" rfl) boot_tuple rfl)) va_nil))) va_nil))) d_isiT))) (vw_or1 (vt_not (vt_chain op_le op_le d_IB d_IB (ve_int pe_int) (ve_cb (pe_callB (call_lenK K) (by rfl) (T.free "len" rfl) boot_len (va_cons (ve_var (pv 0)) va_nil)) d_len) (ve_int pe_int)))))) (vss_one (vs_ret (ps_ret (ve_bl pe_bl)))) vss_nil)
  (vss_cons (vs_for (passes_of rfl) rfl (vi_seq rfl (ve_var (pv 0))) (vg_name (pg_name (i := 1) sc_is_sizes.nd rfl (Or.inl rfl))) (vss_one (vs_if (vt_not (vt_val (ve_call hC hE (pe_call (v_is_number T) (hr.mono (by decide)) (by rfl) (T.glo "is_number" rfl) (F_is_number T).kp (B_is_number T) .nil (passes_call (takes_of rfl rfl rfl rfl) (fun _ _ _ _ h => h)) (va_cons (ve_var (pv 1)) (va_cons (ve_int pe_int) (va_cons (ve_int pe_int) va_nil)))) (fun _ _ _ => .nil)))) (vss_one (vs_ret (ps_ret (ve_bl pe_bl)))) vss_nil)))
  (vss_one (vs_ret (ps_ret (ve_bl pe_bl)))))), ?_⟩)
  · rintro ds n Q E ⟨d, rfl, _⟩; rfl
  · obtain ⟨d, rfl, hp, hq⟩ := h
    walk_at "vin"
    walk_at "vw"
    cases e : seqOf d with
    | none =>
      refine y_LT (r := false) hp (by simp [e]) ?_
      walk_at "vw"
      simpa [sizesB, e] using hq
    | some es =>
      refine y_LT (r := true) hp (by simp [e]) ?_
      walk_at "vw"
      refine y_lenS e ?_
      walk_at "vw"
      by_cases h1 : 1 ≤ es.length
      · have h1' : (1 : Int) ≤ (es.length : Int) := by omega
        simp only [h1', decide_true, if_true]
        walk_at "vw"
        by_cases h2 : es.length ≤ 6
        · have h2' : (es.length : Int) ≤ 6 := by omega
          simp only [h2', decide_true]
          walk_at "vw"
          refine y_seqD e ?_
          refine VF.y_loop (fun i τ n' => n' = n ∧ ∃ o, τ = [some (.d d), o] ∧ (es.take i).all (numB · 1 64) = true) ⟨rfl, _, rfl, rfl⟩ ?_ ?_
          · rintro i x τ n' hx ⟨rfl, o, rfl, ha⟩
            walk_at "vw"
            refine y_num ((seq_pl (k := 7) hp e x (List.mem_of_getElem? hx)).mono (by decide)) ?_
            walk_at "vw"
            cases hb : numB x 1 64 with
            | true =>
              walk_at "vw"
              exact ⟨rfl, _, rfl, by rw [all_take hx, ha, hb]; rfl⟩
            | false =>
              walk_at "vw"
              simpa [sizesB, e, all_bad (p := (numB · 1 64)) hx hb] using hq
          · rintro τ n' ⟨rfl, o, rfl, ha⟩
            rw [List.take_length] at ha
            walk_at "vw"
            simpa [sizesB, e, h1, h2, ha] using hq
        · have h2' : ¬ (es.length : Int) ≤ 6 := by omega
          simp only [h2', decide_false]
          walk_at "vw"
          simpa [sizesB, e, h2] using hq
      · have h1' : ¬ (1 : Int) ≤ (es.length : Int) := by omega
        simp only [h1', decide_false, if_false]
        walk_at "vw"
        simpa [sizesB, e, h1] using hq
theorem prod_take {xs : List Int} {i : Nat} {x : Int} (h : xs[i]? = some x) : prod (xs.take (i + 1)) = prod (xs.take i) * x := by
  induction xs generalizing i with
  | nil => cases h
  | cons y ys ih =>
    cases i with
    | zero =>
      have : y = x := by simpa using h
      subst this
      simp [prod]
    | succ i =>
      rw [List.take_succ_cons, List.take_succ_cons]
      simp only [prod]
      rw [ih (by simpa using h), Int.mul_assoc]
theorem prod_bd : ∀ {xs : List Int}, (∀ x ∈ xs, 1 ≤ x ∧ x ≤ 64) → 1 ≤ prod xs ∧ prod xs ≤ 64 ^ xs.length
  | [], _ => ⟨by decide, by decide⟩
  | x :: xs, h => by
    obtain ⟨h1, h2⟩ := h x List.mem_cons_self
    obtain ⟨p1, p2⟩ := prod_bd (xs := xs) fun y hy => h y (List.mem_cons_of_mem _ hy)
    simp only [prod, List.length_cons]
    constructor
    · have := Int.mul_le_mul h1 p1 (by omega) (by omega)
      simpa using this
    · have := Int.mul_le_mul h2 p2 (by omega) (by omega)
      rw [Int.pow_succ, Int.mul_comm _ (64 : Int)]
      exact this
theorem prod_small {xs : List Int} (h : ∀ x ∈ xs, 1 ≤ x ∧ x ≤ 64) (hl : xs.length ≤ 6) : 1 ≤ prod xs ∧ prod xs ≤ 68719476736 := by
  obtain ⟨h1, h2⟩ := prod_bd h
  refine ⟨h1, Int.le_trans h2 ?_⟩
  have : (64 : Int) ^ xs.length ≤ 64 ^ 6 := by
    have := Nat.pow_le_pow_right (n := 64) (by decide) hl
    exact_mod_cast this
  exact Int.le_trans this (by decide)
/-- told as a list or as a tuple -/
def SqD (d : VF.DV) (ds : List VF.DV) : Prop := d = .lst ds ∨ d = .tup ds
theorem sq_of {d : VF.DV} {ds : List VF.DV} (h : SqD d ds) : seqOf d = some ds := by
  rcases h with rfl | rfl <;> rfl
def sCount : DSp := fun ds n Q _ => ∃ d xs, ds = [d] ∧ SqD d (VF.iD xs) ∧ (∀ x ∈ xs, 1 ≤ x ∧ x ≤ 64) ∧ xs.length ≤ 6 ∧ Q (.int (prod xs)) n
theorem sc_sign_count : FnScope ["sizes", "count", "size"] ["sizes"] (defScope s_sign_count) := ⟨rfl, rfl, rfl, by decide +kernel, rfl, by decide +kernel, by decide +kernel⟩
theorem v_sign_count (T : TT K mg) : FnOk P w K mg base (L2.CX P w) 1 (He.ga K "sign_count") (fdOf K ("sign_count", none)) ["sizes"] (liftSp K (Cs K) sCount) := by
  refine v_ok (F_sign_count T) sc_sign_count (by decide) (by decide) ?_ (fun cdv A outer s H W ds n Q' hC hE hr h => ⟨_, (vss_cons (vs_set (ps_set (i := 1) sc_sign_count.nd rfl (Or.inl rfl) (ve_int pe_int)))
  (vss_cons (vs_for (passes_of rfl) rfl (vi_seq rfl (ve_var (pv 0))) (vg_name (pg_name (i := 2) sc_sign_count.nd rfl (Or.inl rfl))) (vss_one (vs_set (ps_set (i := 1) sc_sign_count.nd rfl (Or.inl rfl) (ve_op op_mulW d_I (ve_var (pv 1)) (ve_var (pv 2)))))))
  (vss_one (vs_ret (ps_ret (ve_var (pv 1))))))), ?_⟩)
  · rintro ds n Q E ⟨d, xs, rfl, _⟩; rfl
  · obtain ⟨d, xs, rfl, hs, hx, hl, hq⟩ := h
    walk_at "vin"
    walk_at "vw"
    refine y_seqD (sq_of hs) ?_
    refine VF.y_loop (fun i τ n' => n' = n ∧ ∃ o, τ = [some (.d d), some (.d (.int (prod (xs.take i)))), o]) ⟨rfl, _, rfl⟩ ?_ ?_
    · rintro i x τ n' hi ⟨rfl, o, rfl⟩
      rw [List.getElem?_map] at hi
      obtain ⟨y, hy, rfl⟩ := Option.map_eq_some_iff.mp hi
      obtain ⟨b1, b2⟩ := hx y (List.mem_of_getElem? hy)
      obtain ⟨p1, p2⟩ := prod_small (xs := xs.take i) (fun z hz => hx z (List.mem_of_mem_take hz)) (by rw [List.length_take]; omega)
      walk_at "vw"
      exact ⟨rfl, _, by rw [prod_take hy]⟩
    · rintro τ n' ⟨rfl, o, rfl⟩
      rw [List.length_map, List.take_length]
      walk_at "vw"
      exact hq
def sVals : DSp := fun ds n Q _ => ∃ d c s, ds = [d, .int c, .int s] ∧ Pl 8 d ∧ Q (.bl (valsB d c s)) n
theorem sc__are_values : FnScope ["value", "count", "size", "item"] ["value", "count", "size"] (defScope s__are_values) := ⟨rfl, rfl, rfl, by decide +kernel, rfl, by decide +kernel, by decide +kernel⟩
theorem v__are_values (T : TT K mg) : FnOk P w K mg base (L2.CX P w) 2 (He.ga K "_are_values") (fdOf K ("_are_values", none)) ["value", "count", "size"] (liftSp K (Cs K) sVals) := by
  refine v_ok (F__are_values T) sc__are_values (by decide) (by decide) ?_ (fun cdv A outer s H W ds n Q' hC hE hr h => ⟨_, (vss_cons (vs_if (PW.pt (vw_or (vt_not (vt_val (ve_cb (pe_callB (call_isiK' K) (by rfl) (T.free "isinstance" rfl) boot_isinstance (va_cons (ve_var (pv 0)) (va_cons (ve_ty (pe_bltn (v := .ty "tuple") (by rfl) (T.free "tuple" rfl) boot_tuple rfl)) va_nil))) d_isi))) (vw_or1 (vt_cmp (op_neU K hr.units) d_ne (ve_cb (pe_callB (call_lenK K) (by rfl) (T.free "len" rfl) boot_len (va_cons (ve_var (pv 0)) va_nil)) d_len) (ve_var (pv 1)) (nomark _))))) (vss_one (vs_ret (ps_ret (ve_bl pe_bl)))) vss_nil)
  (vss_cons (vs_for (passes_of rfl) rfl (vi_tup rfl (ve_var (pv 0))) (vg_name (pg_name (i := 3) sc__are_values.nd rfl (Or.inl rfl))) (vss_one (vs_if (vt_not (vt_val (ve_call hC hE (pe_call (v_is_number T) (hr.mono (by decide)) (by rfl) (T.glo "is_number" rfl) (F_is_number T).kp (B_is_number T) .nil (passes_call (takes_of rfl rfl rfl rfl) (fun _ _ _ _ h => h)) (va_cons (ve_var (pv 3)) (va_cons (ve_int pe_int) (va_cons (ve_op op_sub d_I0 (ve_var (pv 2)) (ve_int pe_int)) va_nil)))) (fun _ _ _ => .nil)))) (vss_one (vs_ret (ps_ret (ve_bl pe_bl)))) vss_nil)))
  (vss_one (vs_ret (ps_ret (ve_bl pe_bl)))))), ?_⟩)
  · rintro ds n Q E ⟨d, c, s, rfl, _⟩; rfl
  · obtain ⟨d, c, sz, rfl, hp, hq⟩ := h
    walk_at "vin"
    cases d with
    | tup es =>
      walk_at "vw"
      by_cases h1 : (es.length : Int) = c
      · rw [decide_eq_true h1]
        walk_at "vw"
        refine VF.y_loop (fun i τ n' => n' = n ∧ ∃ o, τ = [some (.d (.tup es)), some (.d (.int c)), some (.d (.int sz)), o] ∧ (es.take i).all (numB · 0 (sz - 1)) = true) ⟨rfl, _, rfl, rfl⟩ ?_ ?_
        · rintro i x τ n' hx ⟨rfl, o, rfl, ha⟩
          walk_at "vw"
          refine y_num ((hp.of_tup (k := 7) x (List.mem_of_getElem? hx)).mono (by decide)) ?_
          walk_at "vw"
          cases hb : numB x 0 (sz - 1) with
          | true =>
            walk_at "vw"
            exact ⟨rfl, _, rfl, by rw [all_take hx, ha, hb]; rfl⟩
          | false =>
            walk_at "vw"
            simpa [valsB, tupB, all_bad (p := (numB · 0 (sz - 1))) hx hb] using hq
        · rintro τ n' ⟨rfl, o, rfl, ha⟩
          rw [List.take_length] at ha
          walk_at "vw"
          simpa [valsB, tupB, h1, ha] using hq
      · rw [decide_eq_false h1]
        walk_at "vw"
        simpa [valsB, tupB, h1] using hq
    | non => walk_at "vw"; exact hq
    | bl b => walk_at "vw"; exact hq
    | str z => walk_at "vw"; exact hq
    | lst es => walk_at "vw"; exact hq
    | int i => walk_at "vw"; exact hq
    | _ => (obtain ⟨x, hx, _⟩ := hp; cases hx)
theorem y_vals {d : VF.DV} {c s n : Int} {Q : VF.DV → Int → Prop} {E : XV} (h : Pl 8 d) (q : Q (.bl (valsB d c s)) n) : sVals ([d, .int c, .int s] ++ []) n Q E := ⟨d, c, s, rfl, h, q⟩
theorem y_count {d : VF.DV} {xs : List Int} {n : Int} {Q : VF.DV → Int → Prop} {E : XV} (h : SqD d (VF.iD xs)) (h1 : ∀ x ∈ xs, 1 ≤ x ∧ x ≤ 64) (h2 : xs.length ≤ 6) (q : Q (.int (prod xs)) n) : sCount ([d] ++ []) n Q E := ⟨d, xs, rfl, h, h1, h2, q⟩
end
end BF
/-! ## Reads, adds, deeds by data -/
namespace BF
open PySem PySem.Spec PyProof.Rows L2 VF
def intOf : VF.DV → Int
  | .int i => i
  | _ => 0
def prI : VF.DV → List Int
  | .tup [a, b] => [intOf a, intOf b]
  | _ => []
def readB (m t : Int) : VF.DV → Bool
  | .tup [a, b] => numB a 0 (m - 1) && (!decide (intOf a = t) && numB b (-3) 3)
  | _ => false
def readsB (m t : Int) (d : VF.DV) : Bool := tupB d fun ds => decide (ds.length ≤ 3) && (ds.all (readB m t) && decide ((ds.map prI).Nodup))
theorem numB_int {d : VF.DV} {lo hi : Int} (h : numB d lo hi = true) : ∃ i, d = .int i ∧ lo ≤ i ∧ i ≤ hi := by
  cases d with
  | int i =>
    simp only [numB, Bool.and_eq_true, decide_eq_true_eq] at h
    exact ⟨i, rfl, h.1, h.2⟩
  | _ => cases h
theorem readB_pr {m t : Int} {d : VF.DV} (h : readB m t d = true) : ∃ a b, d = .tup (VF.iD [a, b]) ∧ prI d = [a, b] ∧ 0 ≤ a ∧ a ≤ m - 1 ∧ a ≠ t ∧ -3 ≤ b ∧ b ≤ 3 := by
  unfold readB at h
  split at h
  · rename_i x y
    simp only [Bool.and_eq_true, Bool.not_eq_true', decide_eq_false_iff_not] at h
    obtain ⟨h1, h2, h3⟩ := h
    obtain ⟨a, rfl, a1, a2⟩ := numB_int h1
    obtain ⟨b, rfl, b1, b2⟩ := numB_int h3
    exact ⟨a, b, rfl, rfl, a1, a2, h2, b1, b2⟩
  · cases h
theorem reads_iT {m t : Int} : ∀ {ds : List VF.DV}, ds.all (readB m t) = true → ds = VF.iT (ds.map prI)
  | [], _ => rfl
  | d :: ds, h => by
    rw [List.all_cons, Bool.and_eq_true] at h
    obtain ⟨a, b, e1, e2, _⟩ := readB_pr h.1
    rw [List.map_cons, VF.iT, List.map_cons, e2, ← VF.iT, ← reads_iT h.2, e1]
theorem y_ixS {d : VF.DV} {es : List VF.DV} {i : Int} {x : VF.DV} {P : DP} (e : seqOf d = some es) (h : atI es i = some x) (q : P x) : wIx d (.int i) P := by
  cases d <;> cases e
  · exact ⟨x, h, q⟩
  · exact ⟨x, h, q⟩
section
variable {P : Program} {w : World} {K : PySem.W.Frag} {mg : Str → Option Value} {base : Heap}
def sReads : DSp := fun ds n Q _ => ∃ z xs t d, ds = [z, .int t, d] ∧ SqD z (VF.iD xs) ∧ Pl 8 d ∧ Q (.bl (readsB (xs.length : Int) t d)) n
theorem sc__are_reads : FnScope ["sizes", "track", "value", "read"] ["sizes", "track", "value"] (defScope s__are_reads) := ⟨rfl, rfl, rfl, by decide +kernel, rfl, by decide +kernel, by decide +kernel⟩
theorem v__are_reads (T : TT K mg) : FnOk P w K mg base (L2.CX P w) 2 (He.ga K "_are_reads") (fdOf K ("_are_reads", none)) ["sizes", "track", "value"] (liftSp K (Cs K) sReads) := by
  refine v_ok (F__are_reads T) sc__are_reads (by decide) (by decide) ?_ (fun cdv A outer s H W ds n Q' hC hE hr h => ⟨_, (vss_cons (vs_if (PW.pt (vw_or (vt_not (vt_val (ve_cb (pe_callB (call_isiK' K) (by rfl) (T.free "isinstance" rfl) boot_isinstance (va_cons (ve_var (pv 2)) (va_cons (ve_ty (pe_bltn (v := .ty "tuple") (by rfl) (T.free "tuple" rfl) boot_tuple rfl)) va_nil))) d_isi))) (vw_or1 (vt_cmp op_gt d_IB (ve_cb (pe_callB (call_lenK K) (by rfl) (T.free "len" rfl) boot_len (va_cons (ve_var (pv 2)) va_nil)) d_len) (ve_int pe_int) (nomark _))))) (vss_one (vs_ret (ps_ret (ve_bl pe_bl)))) vss_nil)
  (vss_cons (vs_for (passes_of rfl) rfl (vi_tup rfl (ve_var (pv 2))) (vg_name (pg_name (i := 3) sc__are_reads.nd rfl (Or.inl rfl))) (vss_cons (vs_if (PW.pt (vw_or (vt_not (vt_val (ve_cb (pe_callB (call_isiK' K) (by rfl) (T.free "isinstance" rfl) boot_isinstance (va_cons (ve_var (pv 3)) (va_cons (ve_ty (pe_bltn (v := .ty "tuple") (by rfl) (T.free "tuple" rfl) boot_tuple rfl)) va_nil))) d_isi))) (vw_or1 (vt_cmp (op_neU K hr.units) d_ne (ve_cb (pe_callB (call_lenK K) (by rfl) (T.free "len" rfl) boot_len (va_cons (ve_var (pv 3)) va_nil)) d_len) (ve_int pe_int) (nomark _))))) (vss_one (vs_ret (ps_ret (ve_bl pe_bl)))) vss_nil)
  (vss_cons (vs_if (PW.pt (vw_or (vt_not (vt_val (ve_call hC hE (pe_call (v_is_number T) (hr.mono (by decide)) (by rfl) (T.glo "is_number" rfl) (F_is_number T).kp (B_is_number T) .nil (passes_call (takes_of rfl rfl rfl rfl) (fun _ _ _ _ h => h)) (va_cons (ve_ix (ix_LTK K) d_ix (ve_var (pv 3)) (ve_int pe_int) (fun _ _ => rfl)) (va_cons (ve_int pe_int) (va_cons (ve_op op_sub d_I0 (ve_cb (pe_callB (call_lenK K) (by rfl) (T.free "len" rfl) boot_len (va_cons (ve_var (pv 0)) va_nil)) d_len) (ve_int pe_int)) va_nil)))) (fun _ _ _ => .nil)))) (vw_or1 (vt_cmp (op_eqU K hr.units) d_eq (ve_ix (ix_LTK K) d_ix (ve_var (pv 3)) (ve_int pe_int) (fun _ _ => rfl)) (ve_var (pv 1)) (nomark _))))) (vss_one (vs_ret (ps_ret (ve_bl pe_bl)))) vss_nil)
  (vss_one (vs_if (vt_not (vt_val (ve_call hC hE (pe_call (v_is_number T) (hr.mono (by decide)) (by rfl) (T.glo "is_number" rfl) (F_is_number T).kp (B_is_number T) .nil (passes_call (takes_of rfl rfl rfl rfl) (fun _ _ _ _ h => h)) (va_cons (ve_ix (ix_LTK K) d_ix (ve_var (pv 3)) (ve_int pe_int) (fun _ _ => rfl)) (va_cons (ve_un un_neg d_neg (ve_int pe_int)) (va_cons (ve_int pe_int) va_nil)))) (fun _ _ _ => .nil)))) (vss_one (vs_ret (ps_ret (ve_bl pe_bl)))) vss_nil)))))
  (vss_one (vs_ret (ps_ret (ve_cmp (op_eqU K hr.units) d_eq (ve_lsT (GA.pe_lsT rfl (by have := hr.un; show (A.deeper _).units + 64 < cLine; omega) (by rfl) (T.free "len" rfl) (by rfl) (T.free "set" rfl) (ve_var (pv 2)))) (ve_cb (pe_callB (call_lenK K) (by rfl) (T.free "len" rfl) boot_len (va_cons (ve_var (pv 2)) va_nil)) d_len) (nomark _))))))), ?_⟩)
  · rintro ds n Q E ⟨z, xs, t, d, rfl, _⟩; rfl
  · obtain ⟨z, xs, t, d, rfl, hz, hp, hq⟩ := h
    walk_at "vin"
    cases d with
    | tup es =>
      walk_at "vw"
      by_cases h1 : es.length ≤ 3
      · rw [decide_eq_false (show ¬ (3 : Int) < (es.length : Int) by omega)]
        walk_at "vw"
        refine VF.y_loop (fun i τ n' => n' = n ∧ ∃ o, τ = [some (.d z), some (.d (.int t)), some (.d (.tup es)), o] ∧ (es.take i).all (readB xs.length t) = true) ⟨rfl, _, rfl, rfl⟩ ?_ ?_
        · rintro i x τ n' hx ⟨rfl, o, rfl, ha⟩
          have px := hp.of_tup (k := 7) x (List.mem_of_getElem? hx)
          have bad : readB xs.length t x = false → Q' (.bl false) n' := fun hb => by
            simpa [readsB, tupB, all_bad (p := readB xs.length t) hx hb] using hq
          cases x with
          | tup fs =>
            walk_at "vw"
            by_cases l : fs.length = 2
            · match fs, l with
              | [a, b], _ =>
                have pa := px.of_tup (k := 6) a (by simp)
                have pb := px.of_tup (k := 6) b (by simp)
                walk_at "vw"
                refine y_lenS (sq_of hz) ?_
                rw [List.length_map]
                walk_at "vw"
                refine y_num (pa.mono (by decide)) ?_
                walk_at "vw"
                cases ea : numB a 0 (xs.length - 1) with
                | false =>
                  walk_at "vw"
                  exact bad (by simp [readB, ea])
                | true =>
                  obtain ⟨a', rfl, _⟩ := numB_int ea
                  walk_at "vw"
                  by_cases et : a' = t
                  · rw [decide_eq_true et]
                    walk_at "vw"
                    exact bad (by simp [readB, intOf, et])
                  · rw [decide_eq_false et]
                    walk_at "vw"
                    refine y_num (pb.mono (by decide)) ?_
                    walk_at "vw"
                    cases eb : numB b (-3) 3 with
                    | false =>
                      walk_at "vw"
                      exact bad (by simp [readB, eb])
                    | true =>
                      walk_at "vw"
                      exact ⟨rfl, _, rfl, by rw [all_take hx, ha]; simp [readB, ea, eb, intOf, et]⟩
            · rw [decide_eq_false (show ¬ (fs.length : Int) = 2 by omega)]
              walk_at "vw"
              refine bad ?_
              unfold readB
              split
              · rename_i he
                cases he
                exact absurd rfl l
              · rfl
          | non => walk_at "vw"; exact bad rfl
          | bl b => walk_at "vw"; exact bad rfl
          | str z => walk_at "vw"; exact bad rfl
          | lst es => walk_at "vw"; exact bad rfl
          | int i => walk_at "vw"; exact bad rfl
          | _ => (obtain ⟨x, hx, _⟩ := px; cases hx)
        · rintro τ n' ⟨rfl, o, rfl, ha⟩
          rw [List.take_length] at ha
          walk_at "vw"
          refine ⟨es.map prI, by rw [← reads_iT ha], by rw [List.length_map]; omega, fun c c1 c2 => ?_⟩
          rw [List.length_map] at c1 c2
          walk_at "vw"
          have e : decide ((c : Int) = (es.length : Int)) = decide ((es.map prI).Nodup) := by
            rw [decide_eq_decide, ← c2]
            omega
          rw [e]
          simpa [readsB, tupB, h1, ha] using hq
      · rw [decide_eq_true (show (3 : Int) < (es.length : Int) by omega)]
        walk_at "vw"
        simpa [readsB, tupB, h1] using hq
    | non => walk_at "vw"; exact hq
    | bl b => walk_at "vw"; exact hq
    | str z => walk_at "vw"; exact hq
    | lst es => walk_at "vw"; exact hq
    | int i => walk_at "vw"; exact hq
    | _ => (obtain ⟨x, hx, _⟩ := hp; cases hx)
theorem y_reads {z d : VF.DV} {xs : List Int} {t n : Int} {Q : VF.DV → Int → Prop} {E : XV} (hz : SqD z (VF.iD xs)) (h : Pl 8 d) (q : Q (.bl (readsB (xs.length : Int) t d)) n) : sReads ([z, .int t, d] ++ []) n Q E := ⟨z, xs, t, d, rfl, hz, h, q⟩
/-- the sizes of what is read -/
def rsz (xs : List Int) (d : VF.DV) : List Int := match d with
  | .tup ds => ds.map fun r => xs.getD ((prI r).headD 0).toNat 0
  | _ => []
def addB (xs : List Int) (vs : List VF.DV) : Bool := match vs with
  | [_, t, r, v] => numB t 0 (xs.length - 1) && (readsB xs.length (intOf t) r && valsB v (prod (rsz xs r)) (xs.getD (intOf t).toNat 0))
  | _ => false
theorem atI_iD {xs : List Int} {i : Int} (h0 : 0 ≤ i) (h1 : i ≤ xs.length - 1) : atI (VF.iD xs) i = some (.int (xs.getD i.toNat 0)) := by
  have hl : i.toNat < xs.length := by omega
  have q := atI_nat (xs := VF.iD xs) (j := i.toNat) (v := .int (xs.getD i.toNat 0)) (by simp [hl])
  rwa [Int.toNat_of_nonneg h0] at q
theorem getD_mem {xs : List Int} {i : Int} (h0 : 0 ≤ i) (h1 : i ≤ xs.length - 1) : xs.getD i.toNat 0 ∈ xs := by
  have hl : i.toNat < xs.length := by omega
  rw [List.getD_eq_getElem?_getD, List.getElem?_eq_getElem hl]
  exact List.getElem_mem _
def SzOk (xs : List Int) : Prop := (∀ x ∈ xs, 1 ≤ x ∧ x ≤ 64) ∧ xs.length ≤ 6
theorem rsz_ok {xs : List Int} {t : Int} {d : VF.DV} (hs : SzOk xs) (h : readsB xs.length t d = true) : (∀ x ∈ rsz xs d, 1 ≤ x ∧ x ≤ 64) ∧ (rsz xs d).length ≤ 6 := by
  cases d with
  | tup ds =>
    simp only [readsB, tupB, Bool.and_eq_true, decide_eq_true_eq] at h
    obtain ⟨h1, h2, h3⟩ := h
    refine ⟨fun x hx => ?_, by simp only [rsz, List.length_map]; omega⟩
    obtain ⟨r, hr, rfl⟩ := List.mem_map.mp hx
    obtain ⟨a, b, e1, e2, a1, a2, _⟩ := readB_pr (List.all_eq_true.mp h2 r hr)
    rw [e2]
    exact hs.1 _ (getD_mem a1 a2)
  | _ => exact ⟨nofun, Nat.zero_le _⟩
def sAdd : DSp := fun ds n Q _ => ∃ z xs vs, ds = [z, .tup vs] ∧ SqD z (VF.iD xs) ∧ SzOk xs ∧ Pl 8 (.tup vs) ∧ Q (.bl (addB xs vs)) n
theorem sc__is_add : FnScope ["sizes", "value", "count", "read"] ["sizes", "value"] (defScope s__is_add) := ⟨rfl, rfl, rfl, by decide +kernel, rfl, by decide +kernel, by decide +kernel⟩
theorem v__is_add (T : TT K mg) : FnOk P w K mg base (L2.CX P w) 3 (He.ga K "_is_add") (fdOf K ("_is_add", none)) ["sizes", "value"] (liftSp K (Cs K) sAdd) := by
  refine v_ok (F__is_add T) sc__is_add (by decide) (by decide) ?_ (fun cdv A outer s H W ds n Q' hC hE hr h => ⟨_, (vss_cons (vs_if (PW.pt (vw_or (vt_cmp (op_neU K hr.units) d_ne (ve_cb (pe_callB (call_lenK K) (by rfl) (T.free "len" rfl) boot_len (va_cons (ve_var (pv 1)) va_nil)) d_len) (ve_int pe_int) (nomark _)) (vw_or1 (vt_not (vt_val (ve_call hC hE (pe_call (v_is_number T) (hr.mono (by decide)) (by rfl) (T.glo "is_number" rfl) (F_is_number T).kp (B_is_number T) .nil (passes_call (takes_of rfl rfl rfl rfl) (fun _ _ _ _ h => h)) (va_cons (ve_ix (ix_LTK K) d_ix (ve_var (pv 1)) (ve_int pe_int) (fun _ _ => rfl)) (va_cons (ve_int pe_int) (va_cons (ve_op op_sub d_I0 (ve_cb (pe_callB (call_lenK K) (by rfl) (T.free "len" rfl) boot_len (va_cons (ve_var (pv 0)) va_nil)) d_len) (ve_int pe_int)) va_nil)))) (fun _ _ _ => .nil))))))) (vss_one (vs_ret (ps_ret (ve_bl pe_bl)))) vss_nil)
  (vss_cons (vs_if (vt_not (vt_val (ve_call hC hE (pe_call (v__are_reads T) (hr.mono (by decide)) (by rfl) (T.glo "_are_reads" rfl) (F__are_reads T).kp (B__are_reads T) .nil (passes_call (takes_of rfl rfl rfl rfl) (fun _ _ _ _ h => h)) (va_cons (ve_var (pv 0)) (va_cons (ve_ix (ix_LTK K) d_ix (ve_var (pv 1)) (ve_int pe_int) (fun _ _ => rfl)) (va_cons (ve_ix (ix_LTK K) d_ix (ve_var (pv 1)) (ve_int pe_int) (fun _ _ => rfl)) va_nil)))) (fun _ _ _ => .nil)))) (vss_one (vs_ret (ps_ret (ve_bl pe_bl)))) vss_nil)
  (vss_cons (vs_set (ps_set (i := 2) sc__is_add.nd rfl (Or.inl rfl) (ve_call hC hE (pe_call (v_sign_count T) (hr.mono (by decide)) (by rfl) (T.glo "sign_count" rfl) (F_sign_count T).kp (B_sign_count T) .nil (passes_call (takes_of rfl rfl rfl rfl) (fun _ _ _ _ h => h)) (va_cons (ve_ofO (vo_lc (pe_lc (own := [("read", 3)]) rfl sc__is_add.nd (vi_tup rfl (ve_ix (ix_LTK K) d_ix (ve_var (pv 1)) (ve_int pe_int) (fun _ _ => rfl))) (blkOk_by (N := ["sizes", "value", "count", "read"]) (sc := defScope s__is_add) (by decide +kernel)) (fun _ _ _ _ _ => (vg_name (pg_name (i := 3) sc__is_add.nd rfl (Or.inl rfl)))) (fun _ _ _ _ _ => vts_nil) (fun _ _ _ _ _ => (ve_ix (ix_LTK K) d_ix (ve_var (pv 0)) (ve_ix (ix_LTK K) d_ix (ve_var (pv 3)) (ve_int pe_int) (fun _ _ => rfl)) (fun _ _ => rfl)))))) va_nil)) (fun _ _ _ => .nil))))
  (vss_one (vs_ret (ps_ret (ve_call hC hE (pe_call (v__are_values T) (hr.mono (by decide)) (by rfl) (T.glo "_are_values" rfl) (F__are_values T).kp (B__are_values T) .nil (passes_call (takes_of rfl rfl rfl rfl) (fun _ _ _ _ h => h)) (va_cons (ve_ix (ix_LTK K) d_ix (ve_var (pv 1)) (ve_int pe_int) (fun _ _ => rfl)) (va_cons (ve_var (pv 2)) (va_cons (ve_ix (ix_LTK K) d_ix (ve_var (pv 0)) (ve_ix (ix_LTK K) d_ix (ve_var (pv 1)) (ve_int pe_int) (fun _ _ => rfl)) (fun _ _ => rfl)) va_nil)))) (fun _ _ _ => .nil)))))))), ?_⟩)
  · rintro ds n Q E ⟨z, xs, vs, rfl, _⟩; rfl
  · obtain ⟨z, xs, vs, rfl, hz, hs, hp, hq⟩ := h
    walk_at "vin"
    walk_at "vw"
    by_cases l : vs.length = 4
    · match vs, l with
      | [u, t, r, v], _ =>
        have pt := hp.of_tup (k := 7) t (by simp)
        have pr := hp.of_tup (k := 7) r (by simp)
        have pv := hp.of_tup (k := 7) v (by simp)
        walk_at "vw"
        refine y_lenS (sq_of hz) ?_
        rw [List.length_map]
        walk_at "vw"
        refine y_num (pt.mono (by decide)) ?_
        walk_at "vw"
        cases et : numB t 0 (xs.length - 1) with
        | false =>
          walk_at "vw"
          simpa [addB, et] using hq
        | true =>
          obtain ⟨t', rfl, t0, t1⟩ := numB_int et
          walk_at "vw"
          refine y_reads hz (pr.mono (by decide)) ?_
          walk_at "vw"
          cases er : readsB xs.length t' r with
          | false =>
            walk_at "vw"
            simpa [addB, intOf, er] using hq
          | true =>
            obtain ⟨k1, k2⟩ := rsz_ok hs er
            have hr2 : ∃ ds, r = .tup ds ∧ ds.length ≤ 3 ∧ ds.all (readB xs.length t') = true := by
              cases r with
              | tup ds =>
                simp only [readsB, tupB, Bool.and_eq_true, decide_eq_true_eq] at er
                exact ⟨ds, rfl, er.1, er.2.1⟩
              | _ => cases er
            obtain ⟨ds, rfl, l3, hall⟩ := hr2
            walk_at "vw"
            refine VF.y_lcMap (fun r => .int (xs.getD ((prI r).headD 0).toNat 0)) (by omega) (fun j p acc R hj hacc hR => ?_) ?_
            · obtain ⟨a, b, e1, e2, a1, a2, _⟩ := readB_pr (List.all_eq_true.mp hall p (List.mem_of_getElem? hj))
              subst e1
              walk_at "vw"
              refine y_ixS (sq_of hz) (atI_iD a1 a2) ?_
              walk_at "vw"
              exact hR
            walk_at "vw"
            refine y_count (xs := rsz xs (.tup ds)) (.inl (by simp [rsz, VF.iD])) k1 k2 ?_
            walk_at "vw"
            refine y_ixS (sq_of hz) (atI_iD t0 t1) ?_
            walk_at "vw"
            refine y_vals (pv.mono (by decide)) ?_
            walk_at "vw"
            simpa [addB, et, intOf, er] using hq
    · rw [decide_eq_false (show ¬ (vs.length : Int) = 4 by omega)]
      walk_at "vw"
      have e : addB xs vs = false := by
        unfold addB
        split
        · exact absurd rfl l
        · rfl
      rw [e] at hq
      exact hq
end
end BF
/-! ## is_deed by data -/
namespace BF
open PySem PySem.Spec PyProof.Rows L2 VF
def intsOf (d : VF.DV) : List Int := match d with
  | .tup ds => ds.map intOf
  | _ => []
theorem vals_ints {d : VF.DV} {c s : Int} (h : valsB d c s = true) : d = .tup (VF.iD (intsOf d)) ∧ ((intsOf d).length : Int) = c ∧ ∀ x ∈ intsOf d, 0 ≤ x ∧ x ≤ s - 1 := by
  cases d with
  | tup ds =>
    simp only [valsB, tupB, Bool.and_eq_true, decide_eq_true_eq] at h
    obtain ⟨h1, h2⟩ := h
    have key : ∀ {es : List VF.DV}, es.all (numB · 0 (s - 1)) = true → es = VF.iD (es.map intOf) ∧ ∀ x ∈ es.map intOf, 0 ≤ x ∧ x ≤ s - 1 := by
      intro es
      induction es with
      | nil => intro _; exact ⟨rfl, nofun⟩
      | cons e es ih =>
        intro h
        rw [List.all_cons, Bool.and_eq_true] at h
        obtain ⟨i, rfl, i0, i1⟩ := numB_int h.1
        obtain ⟨k1, k2⟩ := ih h.2
        refine ⟨by rw [List.map_cons, VF.iD, List.map_cons, ← VF.iD, ← k1]; rfl, fun x hx => ?_⟩
        rcases List.mem_cons.mp hx with e | hx
        · rw [e]; exact ⟨i0, i1⟩
        · exact k2 x hx
    obtain ⟨k1, k2⟩ := key h2
    exact ⟨congrArg VF.DV.tup k1, by simpa [intsOf] using h1, k2⟩
  | _ => cases h
def moveB (m : Int) : List VF.DV → Bool
  | [_, a, b] => numB a 0 (m - 1) && numB b (-12) 12
  | _ => false
def swapB (p : Int) : List VF.DV → Bool
  | [_, v] => valsB v p p && decide ((intsOf v).Nodup)
  | _ => false
def deedB (xs : List Int) (d : VF.DV) : Bool := tupB d fun vs => match vs with
  | [] => false
  | x :: _ => if eqS x "move" then moveB xs.length vs else if eqS x "swap" then swapB (prod xs) vs else eqS x "add" && addB xs vs
section
variable {P : Program} {w : World} {K : PySem.W.Frag} {mg : Str → Option Value} {base : Heap}
theorem y_ix0 {x : VF.DV} {r : List VF.DV} {P : DP} (q : P x) : wIx (.tup (x :: r)) (.int 0) P := ⟨x, atI_nat (j := 0) rfl, q⟩
theorem y_add {z : VF.DV} {vs : List VF.DV} {xs : List Int} {n : Int} {Q : VF.DV → Int → Prop} {E : XV} (hz : SqD z (VF.iD xs)) (hs : SzOk xs) (h : Pl 8 (.tup vs)) (q : Q (.bl (addB xs vs)) n) : sAdd ([z, .tup vs] ++ []) n Q E := ⟨z, xs, vs, rfl, hz, hs, h, q⟩
def sDeed : DSp := fun ds n Q _ => ∃ z xs d, ds = [z, d] ∧ SqD z (VF.iD xs) ∧ SzOk xs ∧ prod xs ≤ 64 ∧ Pl 8 d ∧ Q (.bl (deedB xs d)) n
theorem sc_is_deed : FnScope ["sizes", "value", "count"] ["sizes", "value"] (defScope s_is_deed) := ⟨rfl, rfl, rfl, by decide +kernel, rfl, by decide +kernel, by decide +kernel⟩
theorem v_is_deed (T : TT K mg) : FnOk P w K mg base (L2.CX P w) 4 (He.ga K "is_deed") (fdOf K ("is_deed", none)) ["sizes", "value"] (liftSp K (Cs K) sDeed) := by
  refine v_ok (F_is_deed T) sc_is_deed (by decide) (by decide) ?_ (fun cdv A outer s H W ds n Q' hC hE hr h => ⟨_, (vss_cons (vs_if (PW.pt (vw_or (vt_not (vt_val (ve_cb (pe_callB (call_isiK' K) (by rfl) (T.free "isinstance" rfl) boot_isinstance (va_cons (ve_var (pv 1)) (va_cons (ve_ty (pe_bltn (v := .ty "tuple") (by rfl) (T.free "tuple" rfl) boot_tuple rfl)) va_nil))) d_isi))) (vw_or1 (vt_cmp (op_eqU K hr.units) d_eq (ve_cb (pe_callB (call_lenK K) (by rfl) (T.free "len" rfl) boot_len (va_cons (ve_var (pv 1)) va_nil)) d_len) (ve_int pe_int) (nomark _))))) (vss_one (vs_ret (ps_ret (ve_bl pe_bl)))) vss_nil)
  (vss_cons (vs_if (vt_cmp (op_eqU K hr.units) d_eq (ve_ix (ix_LTK K) d_ix (ve_var (pv 1)) (ve_int pe_int) (fun _ _ => rfl)) (ve_str pe_str) (nomark _)) (vss_one (vs_ret (ps_ret (ve_and (ve_cmp (op_eqU K hr.units) d_eq (ve_cb (pe_callB (call_lenK K) (by rfl) (T.free "len" rfl) boot_len (va_cons (ve_var (pv 1)) va_nil)) d_len) (ve_int pe_int) (nomark _)) (ve_and (ve_call hC hE (pe_call (v_is_number T) (hr.mono (by decide)) (by rfl) (T.glo "is_number" rfl) (F_is_number T).kp (B_is_number T) .nil (passes_call (takes_of rfl rfl rfl rfl) (fun _ _ _ _ h => h)) (va_cons (ve_ix (ix_LTK K) d_ix (ve_var (pv 1)) (ve_int pe_int) (fun _ _ => rfl)) (va_cons (ve_int pe_int) (va_cons (ve_op op_sub d_I0 (ve_cb (pe_callB (call_lenK K) (by rfl) (T.free "len" rfl) boot_len (va_cons (ve_var (pv 0)) va_nil)) d_len) (ve_int pe_int)) va_nil)))) (fun _ _ _ => .nil)) (pe_one (ve_call hC hE (pe_call (v_is_number T) (hr.mono (by decide)) (by rfl) (T.glo "is_number" rfl) (F_is_number T).kp (B_is_number T) .nil (passes_call (takes_of rfl rfl rfl rfl) (fun _ _ _ _ h => h)) (va_cons (ve_ix (ix_LTK K) d_ix (ve_var (pv 1)) (ve_int pe_int) (fun _ _ => rfl)) (va_cons (ve_un un_neg d_neg (ve_int pe_int)) (va_cons (ve_int pe_int) va_nil)))) (fun _ _ _ => .nil)))))))) vss_nil)
  (vss_cons (vs_if (vt_cmp (op_eqU K hr.units) d_eq (ve_ix (ix_LTK K) d_ix (ve_var (pv 1)) (ve_int pe_int) (fun _ _ => rfl)) (ve_str pe_str) (nomark _)) (vss_cons (vs_set (ps_set (i := 2) sc_is_deed.nd rfl (Or.inl rfl) (ve_call hC hE (pe_call (v_sign_count T) (hr.mono (by decide)) (by rfl) (T.glo "sign_count" rfl) (F_sign_count T).kp (B_sign_count T) .nil (passes_call (takes_of rfl rfl rfl rfl) (fun _ _ _ _ h => h)) (va_cons (ve_var (pv 0)) va_nil)) (fun _ _ _ => .nil))))
  (vss_one (vs_ret (ps_ret (ve_and (ve_cmp (op_eqU K hr.units) d_eq (ve_cb (pe_callB (call_lenK K) (by rfl) (T.free "len" rfl) boot_len (va_cons (ve_var (pv 1)) va_nil)) d_len) (ve_int pe_int) (nomark _)) (ve_and (ve_call hC hE (pe_call (v__are_values T) (hr.mono (by decide)) (by rfl) (T.glo "_are_values" rfl) (F__are_values T).kp (B__are_values T) .nil (passes_call (takes_of rfl rfl rfl rfl) (fun _ _ _ _ h => h)) (va_cons (ve_ix (ix_LTK K) d_ix (ve_var (pv 1)) (ve_int pe_int) (fun _ _ => rfl)) (va_cons (ve_var (pv 2)) (va_cons (ve_var (pv 2)) va_nil)))) (fun _ _ _ => .nil)) (pe_one (ve_cmp (op_eqU K hr.units) d_eq (ve_lsI (GA.pe_lsI rfl (by rfl) (T.free "len" rfl) (by rfl) (T.free "set" rfl) (ve_ix (ix_LTK K) d_ix (ve_var (pv 1)) (ve_int pe_int) (fun _ _ => rfl)))) (ve_var (pv 2)) (nomark _))))))))) vss_nil)
  (vss_one (vs_ret (ps_ret (ve_and (ve_cmp (op_eqU K hr.units) d_eq (ve_ix (ix_LTK K) d_ix (ve_var (pv 1)) (ve_int pe_int) (fun _ _ => rfl)) (ve_str pe_str) (nomark _)) (pe_one (ve_call hC hE (pe_call (v__is_add T) (hr.mono (by decide)) (by rfl) (T.glo "_is_add" rfl) (F__is_add T).kp (B__is_add T) .nil (passes_call (takes_of rfl rfl rfl rfl) (fun _ _ _ _ h => h)) (va_cons (ve_var (pv 0)) (va_cons (ve_var (pv 1)) va_nil))) (fun _ _ _ => .nil)))))))))), ?_⟩)
  · rintro ds n Q E ⟨z, xs, d, rfl, _⟩; rfl
  · obtain ⟨z, xs, d, rfl, hz, hs, hpr, hp, hq⟩ := h
    walk_at "vin"
    cases d with
    | tup vs =>
      walk_at "vw"
      cases vs with
      | nil =>
        walk_at "vw"
        exact hq
      | cons x r =>
        have px := hp.of_tup (k := 7) x (by simp)
        rw [decide_eq_false (show ¬ ((x :: r).length : Int) = 0 by simp; omega)]
        walk_at "vw"
        refine y_ix0 ?_
        walk_at "vw"
        refine y_eqPS px (by decide) (by decide +kernel) ?_
        walk_at "vw"
        have hd : deedB xs (.tup (x :: r)) = if eqS x "move" then moveB xs.length (x :: r) else if eqS x "swap" then swapB (prod xs) (x :: r) else eqS x "add" && addB xs (x :: r) := rfl
        rw [hd] at hq
        cases e1 : eqS x "move" with
        | true =>
          rw [e1] at hq
          walk_at "vw"
          by_cases l : (x :: r).length = 3
          · match r, l with
            | [a, b], _ =>
              have pa := hp.of_tup (k := 7) a (by simp)
              have pb := hp.of_tup (k := 7) b (by simp)
              walk_at "vw"
              refine y_lenS (sq_of hz) ?_
              rw [List.length_map]
              walk_at "vw"
              refine y_num (pa.mono (by decide)) ?_
              walk_at "vw"
              cases ea : numB a 0 (xs.length - 1) with
              | false =>
                walk_at "vw"
                simpa [moveB, ea] using hq
              | true =>
                walk_at "vw"
                refine y_num (pb.mono (by decide)) ?_
                simpa [moveB, ea] using hq
          · rw [decide_eq_false (show ¬ ((x :: r).length : Int) = 3 by omega)]
            walk_at "vw"
            have e : moveB xs.length (x :: r) = false := by
              unfold moveB
              split
              · rename_i h; rw [h] at l; exact absurd rfl l
              · rfl
            simpa [e] using hq
        | false =>
          rw [e1] at hq
          walk_at "vw"
          refine y_ix0 ?_
          walk_at "vw"
          refine y_eqPS px (by decide) (by decide +kernel) ?_
          walk_at "vw"
          cases e2 : eqS x "swap" with
          | true =>
            rw [e2] at hq
            walk_at "vw"
            refine y_count hz hs.1 hs.2 ?_
            walk_at "vw"
            by_cases l : (x :: r).length = 2
            · match r, l with
              | [v], _ =>
                have pv := hp.of_tup (k := 7) v (by simp)
                walk_at "vw"
                refine y_vals (pv.mono (by decide)) ?_
                walk_at "vw"
                cases ev : valsB v (prod xs) (prod xs) with
                | false =>
                  walk_at "vw"
                  simpa [swapB, ev] using hq
                | true =>
                  obtain ⟨h1, h2, h3⟩ := vals_ints ev
                  generalize hns : intsOf v = ns at h1 h2 h3
                  subst h1
                  walk_at "vw"
                  refine ⟨ns, rfl, by omega, fun c c1 c2 => ?_⟩
                  walk_at "vw"
                  have e : decide ((c : Int) = prod xs) = decide (ns.Nodup) := by
                    rw [decide_eq_decide, ← c2]
                    omega
                  rw [e]
                  simpa [swapB, ev, hns] using hq
            · rw [decide_eq_false (show ¬ ((x :: r).length : Int) = 2 by omega)]
              walk_at "vw"
              have e : swapB (prod xs) (x :: r) = false := by
                unfold swapB
                split
                · rename_i h; rw [h] at l; exact absurd rfl l
                · rfl
              simpa [e] using hq
          | false =>
            rw [e2] at hq
            walk_at "vw"
            refine y_ix0 ?_
            walk_at "vw"
            refine y_eqPS px (by decide) (by decide +kernel) ?_
            walk_at "vw"
            cases e3 : eqS x "add" with
            | false =>
              rw [e3] at hq
              walk_at "vw"
              simpa using hq
            | true =>
              rw [e3] at hq
              walk_at "vw"
              refine y_add hz hs hp ?_
              simpa using hq
    | non => walk_at "vw"; exact hq
    | bl b => walk_at "vw"; exact hq
    | str z => walk_at "vw"; exact hq
    | lst es => walk_at "vw"; exact hq
    | int i => walk_at "vw"; exact hq
    | _ => (obtain ⟨x, hx, _⟩ := hp; cases hx)
theorem y_deed {z d : VF.DV} {xs : List Int} {n : Int} {Q : VF.DV → Int → Prop} {E : XV} (hz : SqD z (VF.iD xs)) (hs : SzOk xs) (hp : prod xs ≤ 64) (h : Pl 8 d) (q : Q (.bl (deedB xs d)) n) : sDeed ([z, d] ++ []) n Q E := ⟨z, xs, d, rfl, hz, hs, hp, h, q⟩
end
end BF
/-! ## Deeds as such: plain -/
namespace BF
open PySem VF
/-- a deed -/
inductive Dd where
  | mv (t x : Int) | sw (ns : List Int) | ad (t : Int) (rs : List (Int × Int)) (tab : List Int)
def rD (r : Int × Int) : VF.DV := .tup [.int r.1, .int r.2]
def dD : Dd → VF.DV
  | .mv t x => .tup [.str "move", .int t, .int x]
  | .sw ns => .tup [.str "swap", .tup (VF.iD ns)]
  | .ad t rs tab => .tup [.str "add", .int t, .tup (rs.map rD), .tup (VF.iD tab)]
def at' (xs : List Int) (i : Int) : Int := xs.getD i.toNat 0
def DdOk (xs : List Int) : Dd → Prop
  | .mv t x => 0 ≤ t ∧ t ≤ xs.length - 1 ∧ -12 ≤ x ∧ x ≤ 12
  | .sw ns => (ns.length : Int) = prod xs ∧ (∀ v ∈ ns, 0 ≤ v ∧ v ≤ prod xs - 1) ∧ ns.Nodup
  | .ad t rs tab => 0 ≤ t ∧ t ≤ xs.length - 1 ∧ rs.length ≤ 3 ∧ (∀ r ∈ rs, 0 ≤ r.1 ∧ r.1 ≤ xs.length - 1 ∧ r.1 ≠ t ∧ -3 ≤ r.2 ∧ r.2 ≤ 3) ∧ rs.Nodup ∧ (tab.length : Int) = prod (rs.map fun r => at' xs r.1) ∧ ∀ v ∈ tab, 0 ≤ v ∧ v ≤ at' xs t - 1
theorem rD_pr (r : Int × Int) : prI (rD r) = [r.1, r.2] := rfl
theorem prs_nodup {rs : List (Int × Int)} : ((rs.map rD).map prI).Nodup ↔ rs.Nodup := by
  rw [List.map_map]
  constructor
  · intro h
    exact List.Pairwise.imp (fun {a b} q e => q (by rw [e])) (List.pairwise_map.mp h)
  · intro h
    refine List.pairwise_map.mpr (List.Pairwise.imp (fun {a b} q e => q ?_) h)
    have e : ([a.1, a.2] : List Int) = [b.1, b.2] := e
    simp only [List.cons.injEq, and_true] at e
    exact Prod.ext e.1 e.2
theorem all_iD {ns : List Int} {s : Int} : (VF.iD ns).all (numB · 0 (s - 1)) = true ↔ ∀ v ∈ ns, 0 ≤ v ∧ v ≤ s - 1 := by
  rw [List.all_eq_true]
  constructor
  · intro h v hv
    obtain ⟨i, e, h1, h2⟩ := numB_int (h (.int v) (List.mem_map.mpr ⟨v, hv, rfl⟩))
    cases e
    exact ⟨h1, h2⟩
  · intro h d hd
    obtain ⟨v, hv, rfl⟩ := List.mem_map.mp hd
    simp [numB, h v hv]
theorem valsB_iD {ns : List Int} {c s : Int} : valsB (.tup (VF.iD ns)) c s = true ↔ (ns.length : Int) = c ∧ ∀ v ∈ ns, 0 ≤ v ∧ v ≤ s - 1 := by
  simp only [valsB, tupB, Bool.and_eq_true, decide_eq_true_eq, List.length_map, all_iD]
theorem intsOf_iD {ns : List Int} : intsOf (.tup (VF.iD ns)) = ns := by
  simp only [intsOf, VF.iD, List.map_map]
  exact (List.map_congr_left fun a _ => rfl).trans (List.map_id _)
theorem rsz_rD {xs : List Int} {rs : List (Int × Int)} : rsz xs (.tup (rs.map rD)) = rs.map fun r => at' xs r.1 := by
  simp only [rsz, List.map_map]
  exact List.map_congr_left fun r _ => rfl
theorem readB_rD {m t : Int} {r : Int × Int} : readB m t (rD r) = true ↔ 0 ≤ r.1 ∧ r.1 ≤ m - 1 ∧ r.1 ≠ t ∧ -3 ≤ r.2 ∧ r.2 ≤ 3 := by
  simp only [readB, rD, numB, intOf, Bool.and_eq_true, Bool.not_eq_true', decide_eq_true_eq, decide_eq_false_iff_not]
  constructor
  · rintro ⟨⟨h1, h2⟩, h3, h4, h5⟩
    exact ⟨h1, h2, of_decide_eq_false h3, h4, h5⟩
  · rintro ⟨h1, h2, h3, h4, h5⟩
    exact ⟨⟨h1, h2⟩, decide_eq_false h3, h4, h5⟩
theorem readsB_rD {m t : Int} {rs : List (Int × Int)} : readsB m t (.tup (rs.map rD)) = true ↔ rs.length ≤ 3 ∧ (∀ r ∈ rs, 0 ≤ r.1 ∧ r.1 ≤ m - 1 ∧ r.1 ≠ t ∧ -3 ≤ r.2 ∧ r.2 ≤ 3) ∧ rs.Nodup := by
  simp only [readsB, tupB, Bool.and_eq_true, decide_eq_true_eq, List.length_map, prs_nodup]
  rw [List.all_eq_true]
  constructor
  · rintro ⟨h1, h2, h3⟩
    exact ⟨h1, fun r hr => readB_rD.mp (h2 _ (List.mem_map.mpr ⟨r, hr, rfl⟩)), h3⟩
  · rintro ⟨h1, h2, h3⟩
    refine ⟨h1, fun d hd => ?_, h3⟩
    obtain ⟨r, hr, rfl⟩ := List.mem_map.mp hd
    exact readB_rD.mpr (h2 r hr)
theorem deedB_dD {xs : List Int} {D : Dd} (h : DdOk xs D) : deedB xs (dD D) = true := by
  cases D with
  | mv t x =>
    obtain ⟨h1, h2, h3, h4⟩ := h
    simp [deedB, dD, tupB, eqS, moveB, numB, h1, h2, h3, h4]
  | sw ns =>
    obtain ⟨h1, h2, h3⟩ := h
    have e : eqS (.str "swap") "move" = false := by decide +kernel
    have e2 : eqS (.str "swap") "swap" = true := by decide +kernel
    simp only [deedB, dD, tupB, e, e2, if_true, Bool.false_eq_true, if_false, swapB, Bool.and_eq_true, decide_eq_true_eq, intsOf_iD]
    exact ⟨valsB_iD.mpr ⟨h1, h2⟩, h3⟩
  | ad t rs tab =>
    obtain ⟨h1, h2, h3, h4, h5, h6, h7⟩ := h
    have e : eqS (.str "add") "move" = false := by decide +kernel
    have e2 : eqS (.str "add") "swap" = false := by decide +kernel
    have e3 : eqS (.str "add") "add" = true := by decide +kernel
    simp only [deedB, dD, tupB, e, e2, e3, Bool.false_eq_true, if_false, addB, Bool.true_and, Bool.and_eq_true, intOf, rsz_rD]
    exact ⟨by simp [numB, h1, h2], readsB_rD.mpr ⟨h3, h4, h5⟩, valsB_iD.mpr ⟨h6, h7⟩⟩
theorem eqS_str {d : VF.DV} {z : Str} (h : eqS d z = true) : d = .str z := by
  cases d with
  | str y => rw [of_decide_eq_true (p := y = z) h]
  | _ => cases h
theorem deedB_to {xs : List Int} {d : VF.DV} (h : deedB xs d = true) : ∃ D, d = dD D ∧ DdOk xs D := by
  cases d with
  | tup vs =>
    cases vs with
    | nil => cases h
    | cons x r =>
      replace h : (if eqS x "move" then moveB xs.length (x :: r) else if eqS x "swap" then swapB (prod xs) (x :: r) else eqS x "add" && addB xs (x :: r)) = true := h
      cases e1 : eqS x "move" with
      | true =>
        rw [e1, if_pos rfl] at h
        unfold moveB at h
        split at h
        · rename_i a b he
          cases he
          rw [Bool.and_eq_true] at h
          obtain ⟨t, rfl, t0, t1⟩ := numB_int h.1
          obtain ⟨y, rfl, y0, y1⟩ := numB_int h.2
          exact ⟨.mv t y, by rw [eqS_str e1]; rfl, t0, t1, y0, y1⟩
        · cases h
      | false =>
        rw [e1, if_neg Bool.false_ne_true] at h
        cases e2 : eqS x "swap" with
        | true =>
          rw [e2, if_pos rfl] at h
          unfold swapB at h
          split at h
          · rename_i v he
            cases he
            rw [Bool.and_eq_true, decide_eq_true_eq] at h
            obtain ⟨k1, k2, k3⟩ := vals_ints h.1
            exact ⟨.sw (intsOf v), by rw [eqS_str e2, dD, ← k1], k2, k3, h.2⟩
          · cases h
        | false =>
          rw [e2, if_neg Bool.false_ne_true, Bool.and_eq_true] at h
          obtain ⟨e3, h⟩ := h
          unfold addB at h
          split at h
          · rename_i t rv v he
            cases he
            simp only [Bool.and_eq_true] at h
            obtain ⟨h1, h2, h3⟩ := h
            obtain ⟨t', rfl, t0, t1⟩ := numB_int h1
            obtain ⟨k1, k2, k3⟩ := vals_ints h3
            have hr : ∃ rs : List (Int × Int), rv = .tup (rs.map rD) := by
              cases rv with
              | tup ds =>
                simp only [readsB, tupB, Bool.and_eq_true, decide_eq_true_eq] at h2
                refine ⟨ds.map fun d => (((prI d).headD 0), ((prI d).getD 1 0)), congrArg VF.DV.tup ?_⟩
                rw [List.map_map]
                refine (List.map_id ds).symm.trans (List.map_congr_left fun d hd => ?_)
                obtain ⟨a, b, e1, e2, _⟩ := readB_pr (List.all_eq_true.mp h2.2.1 d hd)
                show d = rD ((prI d).headD 0, (prI d).getD 1 0)
                rw [e2, e1]
                rfl
              | _ => cases h2
            obtain ⟨rs, rfl⟩ := hr
            obtain ⟨q1, q2, q3⟩ := readsB_rD.mp h2
            rw [rsz_rD] at k2
            exact ⟨.ad t' rs (intsOf v), by rw [eqS_str e3, dD, ← k1], t0, t1, q1, q2, q3, k2, k3⟩
          · cases h
  | _ => cases h
end BF
/-! ## Spans and texts of deeds, by data -/
namespace BF
open PySem PySem.Spec PyProof.Rows L2 VF
def mn : List Int → Int
  | [] => 0
  | [x] => x
  | x :: y :: xs => min x (mn (y :: xs))
def mx : List Int → Int
  | [] => 0
  | [x] => x
  | x :: y :: xs => max x (mx (y :: xs))
theorem mn_ok : ∀ {ns : List Int}, ns ≠ [] → mn ns ∈ ns ∧ ∀ y ∈ ns, mn ns ≤ y
  | [], h => absurd rfl h
  | [x], _ => ⟨by simp [mn], fun y hy => by rw [List.mem_singleton.mp hy]; exact Int.le_refl _⟩
  | x :: y :: xs, _ => by
    obtain ⟨h1, h2⟩ := mn_ok (ns := y :: xs) (by simp)
    have e : mn (x :: y :: xs) = min x (mn (y :: xs)) := rfl
    rw [e]
    constructor
    · rcases Int.le_total x (mn (y :: xs)) with c | c
      · rw [Int.min_eq_left c]; exact List.mem_cons_self
      · rw [Int.min_eq_right c]; exact List.mem_cons_of_mem _ h1
    · intro z hz
      rcases List.mem_cons.mp hz with c | c
      · rw [c]; exact Int.min_le_left _ _
      · exact Int.le_trans (Int.min_le_right _ _) (h2 z c)
theorem mx_ok : ∀ {ns : List Int}, ns ≠ [] → mx ns ∈ ns ∧ ∀ y ∈ ns, y ≤ mx ns
  | [], h => absurd rfl h
  | [x], _ => ⟨by simp [mx], fun y hy => by rw [List.mem_singleton.mp hy]; exact Int.le_refl _⟩
  | x :: y :: xs, _ => by
    obtain ⟨h1, h2⟩ := mx_ok (ns := y :: xs) (by simp)
    have e : mx (x :: y :: xs) = max x (mx (y :: xs)) := rfl
    rw [e]
    constructor
    · rcases Int.le_total x (mx (y :: xs)) with c | c
      · rw [Int.max_eq_right c]; exact List.mem_cons_of_mem _ h1
      · rw [Int.max_eq_left c]; exact List.mem_cons_self
    · intro z hz
      rcases List.mem_cons.mp hz with c | c
      · rw [c]; exact Int.le_max_left _ _
      · exact Int.le_trans (h2 z c) (Int.le_max_right _ _)
theorem mn_un {ns : List Int} {m : Int} (h : m ∈ ns) (h2 : ∀ y ∈ ns, m ≤ y) : m = mn ns := by
  obtain ⟨k1, k2⟩ := mn_ok (ns := ns) (fun e => by rw [e] at h; cases h)
  exact Int.le_antisymm (h2 _ k1) (k2 _ h)
theorem mx_un {ns : List Int} {m : Int} (h : m ∈ ns) (h2 : ∀ y ∈ ns, y ≤ m) : m = mx ns := by
  obtain ⟨k1, k2⟩ := mx_ok (ns := ns) (fun e => by rw [e] at h; cases h)
  exact Int.le_antisymm (k2 _ h) (h2 _ k1)
theorem y_minL {ns : List Int} {P : DP} (h : ns ≠ []) (q : P (.int (mn ns))) : wMinL [.lst (VF.iD ns)] P := ⟨ns, rfl, List.length_pos_iff.mpr h, fun m hm hy => by rw [mn_un hm hy]; exact q⟩
theorem y_maxL {ns : List Int} {P : DP} (h : ns ≠ []) (q : P (.int (mx ns))) : wMaxL [.lst (VF.iD ns)] P := ⟨ns, rfl, List.length_pos_iff.mpr h, fun m hm hy => by rw [mx_un hm hy]; exact q⟩
def gaps (rs : List (Int × Int)) : List Int := 0 :: rs.map (·.2)
def spanL (m : Int) : Dd → Int
  | .mv _ x => if m = 1 then -x else min 0 (-x)
  | .sw _ => 0
  | .ad _ rs _ => mn (gaps rs)
def spanH (m : Int) : Dd → Int
  | .mv _ x => if m = 1 then -x else max 0 (-x)
  | .sw _ => 0
  | .ad _ rs _ => mx (gaps rs)
def spanD (m : Int) (D : Dd) : VF.DV := .tup [.int (spanL m D), .int (spanH m D)]
section
variable {P : Program} {w : World} {K : PySem.W.Frag} {mg : Str → Option Value} {base : Heap}
def sSpan : DSp := fun ds n Q _ => ∃ z xs D, ds = [z, dD D] ∧ SqD z (VF.iD xs) ∧ DdOk xs D ∧ Q (spanD xs.length D) n
theorem sc_deed_span : FnScope ["sizes", "deed", "offsets", "_", "offset"] ["sizes", "deed"] (defScope s_deed_span) := ⟨rfl, rfl, rfl, by decide +kernel, rfl, by decide +kernel, by decide +kernel⟩
theorem v_deed_span (T : TT K mg) : FnOk P w K mg base (L2.CX P w) 1 (He.ga K "deed_span") (fdOf K ("deed_span", none)) ["sizes", "deed"] (liftSp K (Cs K) sSpan) := by
  refine v_ok (F_deed_span T) sc_deed_span (by decide) (by decide) ?_ (fun cdv A outer s H W ds n Q' hC hE hr h => ⟨_, (vss_cons (vs_if (vt_cmp (op_eqU K hr.units) d_eq (ve_ix (ix_LTK K) d_ix (ve_var (pv 1)) (ve_int pe_int) (fun _ _ => rfl)) (ve_str pe_str) (nomark _)) (vss_one (vs_ret (ps_ret (ve_tup (va_cons (ve_int pe_int) (va_cons (ve_int pe_int) va_nil)))))) vss_nil)
  (vss_cons (vs_if (vt_cmp (op_eqU K hr.units) d_eq (ve_ix (ix_LTK K) d_ix (ve_var (pv 1)) (ve_int pe_int) (fun _ _ => rfl)) (ve_str pe_str) (nomark _)) (vss_cons (vs_set (ps_set (i := 2) sc_deed_span.nd rfl (Or.inl rfl) (ve_op (op_addD K) d_add (ve_lst (va_cons (ve_int pe_int) va_nil)) (ve_ofO (vo_lc (pe_lc (own := [("_", 3), ("offset", 4)]) rfl sc_deed_span.nd (vi_tup rfl (ve_ix (ix_LTK K) d_ix (ve_var (pv 1)) (ve_int pe_int) (fun _ _ => rfl))) (blkOk_by (N := ["sizes", "deed", "offsets", "_", "offset"]) (sc := defScope s_deed_span) (by decide +kernel)) (fun _ _ _ _ _ => (vg_tup (m := 2) rfl rfl (vgs_cons (vg_name (pg_name (i := 3) sc_deed_span.nd rfl (Or.inl rfl))) (vgs_cons (vg_name (pg_name (i := 4) sc_deed_span.nd rfl (Or.inl rfl))) vgs_nil)))) (fun _ _ _ _ _ => vts_nil) (fun _ _ _ _ _ => (ve_var (pv 4)))))))))
  (vss_one (vs_ret (ps_ret (ve_tup (va_cons (ve_cb (pe_callB (cr_minK' K) (by rfl) (T.free "min" rfl) boot_min (va_cons (ve_var (pv 2)) va_nil)) d_minL) (va_cons (ve_cb (pe_callB (cr_maxK K) (by rfl) (T.free "max" rfl) boot_max (va_cons (ve_var (pv 2)) va_nil)) d_maxL) va_nil))))))) vss_nil)
  (vss_cons (vs_if (vt_cmp (op_eqU K hr.units) d_eq (ve_cb (pe_callB (call_lenK K) (by rfl) (T.free "len" rfl) boot_len (va_cons (ve_var (pv 0)) va_nil)) d_len) (ve_int pe_int) (nomark _)) (vss_one (vs_ret (ps_ret (ve_tup (va_cons (ve_un un_neg d_neg (ve_ix (ix_LTK K) d_ix (ve_var (pv 1)) (ve_int pe_int) (fun _ _ => rfl))) (va_cons (ve_un un_neg d_neg (ve_ix (ix_LTK K) d_ix (ve_var (pv 1)) (ve_int pe_int) (fun _ _ => rfl))) va_nil)))))) vss_nil)
  (vss_one (vs_ret (ps_ret (ve_tup (va_cons (ve_cb (pe_callB (call_min2 rfl) (by rfl) (T.free "min" rfl) boot_min (va_cons (ve_int pe_int) (va_cons (ve_un un_neg d_neg (ve_ix (ix_LTK K) d_ix (ve_var (pv 1)) (ve_int pe_int) (fun _ _ => rfl))) va_nil))) d_min2) (va_cons (ve_cb (pe_callB (call_max2 rfl) (by rfl) (T.free "max" rfl) boot_max (va_cons (ve_int pe_int) (va_cons (ve_un un_neg d_neg (ve_ix (ix_LTK K) d_ix (ve_var (pv 1)) (ve_int pe_int) (fun _ _ => rfl))) va_nil))) d_max2) va_nil))))))))), ?_⟩)
  · rintro ds n Q E ⟨z, xs, D, rfl, _⟩; rfl
  · obtain ⟨z, xs, D, rfl, hz, ok, hq⟩ := h
    cases D with
    | sw ns =>
      unfold dD
      walk_at "vin"
      walk_at "vw"
      exact hq
    | ad t rs tab =>
      unfold dD
      walk_at "vin"
      walk_at "vw"
      refine VF.y_lcA rs rD (fun r => .int r.2) rfl (by have := ok.2.2.1; omega) (fun j r acc R hj hacc hR => ?_) ?_
      · unfold rD
        walk_at "vw"
        exact hR
      · walk_at "vw"
        refine VF.y_addL (by have := ok.2.2.1; simp; omega) ?_
        walk_at "vw"
        have e : ([VF.DV.int 0] ++ rs.map fun r => VF.DV.int r.2) = VF.iD (gaps rs) := by simp [VF.iD, gaps]
        rw [e]
        walk_at "vw"
        refine y_minL (by simp [gaps]) ?_
        walk_at "vw"
        refine y_maxL (by simp [gaps]) ?_
        walk_at "vw"
        exact hq
    | mv t x =>
      unfold dD
      walk_at "vin"
      walk_at "vw"
      refine y_lenS (sq_of hz) ?_
      rw [List.length_map]
      walk_at "vw"
      by_cases h1 : (xs.length : Int) = 1
      · rw [decide_eq_true h1]
        walk_at "vw"
        simpa [spanD, spanL, spanH, h1] using hq
      · rw [decide_eq_false h1]
        walk_at "vw"
        simpa [spanD, spanL, spanH, h1] using hq
theorem y_span {z : VF.DV} {xs : List Int} {D : Dd} {n : Int} {Q : VF.DV → Int → Prop} {E : XV} (hz : SqD z (VF.iD xs)) (h : DdOk xs D) (q : Q (spanD xs.length D) n) : sSpan ([z, dD D] ++ []) n Q E := ⟨z, xs, D, rfl, hz, h, q⟩
end
end BF
/-! ## Texts of deeds, by data -/
namespace BF
open PySem PySem.Spec PyProof.Rows L2 VF
abbrev tS (i : Int) : Str := Str.ofString (toString i)
theorem ts_fin : ((List.range 257).all fun n => decide ((tS ((n : Int) - 128)).length ≤ 4) && (decide (((n : Int) - 128).natAbs.log2 < 1920) && (PyData.str (tS ((n : Int) - 128))).canLay0)) = true := by decide +kernel
theorem ts_ok {i : Int} (h0 : -128 ≤ i) (h1 : i ≤ 128) : (tS i).length ≤ 4 ∧ i.natAbs.log2 < 1920 ∧ (PyData.str (tS i)).canLay0 = true := by
  have h := List.all_eq_true.mp ts_fin (i + 128).toNat (List.mem_range.mpr (by omega))
  have e : ((i + 128).toNat : Int) - 128 = i := by omega
  rw [e] at h
  simp only [Bool.and_eq_true, decide_eq_true_eq] at h
  exact h
def rdS (r : Int × Int) : Str := tS r.1 ++ ":" ++ tS r.2
def wordsD : Dd → List Str
  | .mv t x => ["move", tS t, tS x]
  | .sw ns => "swap" :: ns.map tS
  | .ad t rs tab => ([("add" : Str), tS t] ++ rs.map rdS ++ [("=" : Str)]) ++ tab.map tS
def textD (D : Dd) : Str := Txt.join " " (wordsD D)
theorem app_len (x y : Str) : (x ++ y).length = x.length + y.length := by
  show (x.cps ++ y.cps).size = _
  rw [Array.size_append]; rfl
theorem joinS (ws : List Str) : TL.tl (Txt.join " " ws) = TL.joinL (TL.tl (" " : Str)) (ws.map TL.tl) := by rw [TL.join_eq, TL.tl_join]
theorem move_text (t x : Int) : ((((Str.empty ++ ("move " : Str)) ++ tS t) ++ (" " : Str)) ++ tS x) = textD (.mv t x) := by
  refine TL.ext_tl ?_
  rw [textD, joinS]
  simp only [TL.tl_append, wordsD, List.map_cons, List.map_nil, TL.joinL]
  have e : TL.tl ("move " : Str) = TL.tl ("move" : Str) ++ TL.tl (" " : Str) := by decide +kernel
  have e0 : TL.tl Str.empty = [] := rfl
  rw [e, e0]
  simp
theorem sum_le {ws : List Str} {m : Nat} (h : ∀ x ∈ ws, x.length ≤ m) : (ws.map (·.length)).sum ≤ m * ws.length := by
  induction ws with
  | nil => simp
  | cons x ws ih =>
    have h1 := h x List.mem_cons_self
    have h2 := ih fun y hy => h y (List.mem_cons_of_mem _ hy)
    rw [List.map_cons, List.sum_cons, List.length_cons, Nat.mul_succ]
    omega
/-- what a deed's numbers are at most -/
theorem dd_small {xs : List Int} {D : Dd} (hs : SzOk xs) (hp : prod xs ≤ 64) (h : DdOk xs D) : ∀ i : Int, (match D with
    | .mv t x => i = t ∨ i = x
    | .sw ns => i ∈ ns
    | .ad t rs tab => i = t ∨ i ∈ tab ∨ ∃ r ∈ rs, i = r.1 ∨ i = r.2) → -128 ≤ i ∧ i ≤ 128 := by
  have hl : (xs.length : Int) ≤ 6 := by have := hs.2; omega
  intro i hi
  cases D with
  | mv t x =>
    obtain ⟨h1, h2, h3, h4⟩ := h
    rcases hi with e | e <;> omega
  | sw ns =>
    obtain ⟨h1, h2, h3⟩ := h
    have := h2 i hi
    omega
  | ad t rs tab =>
    obtain ⟨h1, h2, h3, h4, h5, h6, h7⟩ := h
    rcases hi with e | e | ⟨r, hr, e⟩
    · omega
    · have := h7 i e
      have := hs.1 _ (getD_mem (xs := xs) h1 h2)
      simp only [at'] at *
      omega
    · have := h4 r hr
      rcases e with e | e <;> omega
end BF
/-! ## deed_text by data -/
namespace BF
open PySem PySem.Spec PyProof.Rows L2 VF
section
variable {wa w1 : WE} {ws : List WE} {τ : VF.ST} {n : Int} {acc z : Str} {Q : Str → VF.ST → Int → Prop} {Q2 : VF.DV → VF.ST → Int → Prop} {P : DP}
theorem y_js (k : w1 τ n fun d τ1 n1 => ∃ y, d = .str y ∧ (acc ++ y).length ≤ 1000000 ∧ wJs ws (acc ++ y) τ1 n1 Q) : wJs (w1 :: ws) acc τ n Q := k
theorem y_jsN (k : Q acc τ n) : wJs [] acc τ n Q := k
theorem y_js1 {R : Str → Prop} (l : (acc ++ z).length ≤ 1000000) (k : R z) : ∃ y, VF.DV.str z = .str y ∧ (acc ++ y).length ≤ 1000000 ∧ R y := ⟨z, rfl, l, k⟩
theorem y_fmt (k : wa τ n fun d τ1 n1 => (∃ y, d = .str y ∧ y.length ≤ 1000000 ∧ Q2 (.str y) τ1 n1) ∨ ∃ i : Int, d = .int i ∧ i.natAbs.log2 < 1920 ∧ Q2 (.str (toString i)) τ1 n1) : wFmt wa τ n Q2 := k
theorem y_fmt2 {i : Int} {R : Int → Prop} {S : Str → Prop} (l : i.natAbs.log2 < 1920) (k : R i) : (∃ y, VF.DV.int i = .str y ∧ S y) ∨ ∃ j : Int, VF.DV.int i = .int j ∧ j.natAbs.log2 < 1920 ∧ R j := .inr ⟨i, rfl, l, k⟩
theorem y_strI {i : Int} (l : i.natAbs.log2 < 1920) (k : P (.str (tS i))) : wStrI [.int i] P := ⟨l, k⟩
theorem y_join2 {a : Str} {ys : List Str} {R : List Str → Prop} (l : (ys.map (·.length)).sum + ys.length * a.length ≤ 16777216) (k : R ys) : ∃ zs : List Str, VF.DV.lst (ys.map VF.DV.str) = .lst (zs.map VF.DV.str) ∧ (zs.map (·.length)).sum + zs.length * a.length ≤ 16777216 ∧ R zs := ⟨ys, rfl, l, k⟩
theorem y_join1 {a : Str} {R : Str → Prop} (k : R a) : ∃ b, VF.DV.str a = .str b ∧ R b := ⟨a, rfl, k⟩
end
section
variable {P : Program} {w : World} {K : PySem.W.Frag} {mg : Str → Option Value} {base : Heap}
def sText : DSp := fun ds n Q _ => ∃ D xs, ds = [dD D] ∧ SzOk xs ∧ prod xs ≤ 64 ∧ DdOk xs D ∧ Q (.str (textD D)) n
theorem sc_deed_text : FnScope ["deed", "reads", "numbers", "sign", "track", "offset", "item"] ["deed"] (defScope s_deed_text) := ⟨rfl, rfl, rfl, by decide +kernel, rfl, by decide +kernel, by decide +kernel⟩
theorem v_deed_text (T : TT K mg) : FnOk P w K mg base (L2.CX P w) 1 (He.ga K "deed_text") (fdOf K ("deed_text", none)) ["deed"] (liftSp K (Cs K) sText) := by
  refine v_ok (F_deed_text T) sc_deed_text (by decide) (by decide) ?_ (fun cdv A outer s H W ds n Q' hC hE hr h => ⟨_, (vss_cons (vs_if (vt_cmp (op_eqU K hr.units) d_eq (ve_ix (ix_LTK K) d_ix (ve_var (pv 0)) (ve_int pe_int) (fun _ _ => rfl)) (ve_str pe_str) (nomark _)) (vss_one (vs_ret (ps_ret (ve_fs (.cons (ve_str pe_str) (.cons (ve_fmt (pe_fmt (ve_ix (ix_LTK K) d_ix (ve_var (pv 0)) (ve_int pe_int) (fun _ _ => rfl)))) (.cons (ve_str pe_str) (.cons (ve_fmt (pe_fmt (ve_ix (ix_LTK K) d_ix (ve_var (pv 0)) (ve_int pe_int) (fun _ _ => rfl)))) .nil)))))))) vss_nil)
  (vss_cons (vs_if (vt_cmp (op_eqU K hr.units) d_eq (ve_ix (ix_LTK K) d_ix (ve_var (pv 0)) (ve_int pe_int) (fun _ _ => rfl)) (ve_str pe_str) (nomark _)) (vss_one (vs_ret (ps_ret (ve_join (pe_join (ve_str pe_str) (ve_op (op_addD K) d_add (ve_lst (va_cons (ve_str pe_str) va_nil)) (ve_ofO (vo_lc (pe_lc (own := [("sign", 3)]) rfl sc_deed_text.nd (vi_tup rfl (ve_ix (ix_LTK K) d_ix (ve_var (pv 0)) (ve_int pe_int) (fun _ _ => rfl))) (blkOk_by (N := ["deed", "reads", "numbers", "sign", "track", "offset", "item"]) (sc := defScope s_deed_text) (by decide +kernel)) (fun _ _ _ _ _ => (vg_name (pg_name (i := 3) sc_deed_text.nd rfl (Or.inl rfl)))) (fun _ _ _ _ _ => vts_nil) (fun _ _ _ _ _ => (ve_cb (pe_callTy call_str_int (by rfl) (T.free "str" rfl) boot_str (va_cons (ve_var (pv 3)) va_nil)) d_strI))))))))))) vss_nil)
  (vss_cons (vs_setLc (ps_setLc (i := 1) (own := [("track", 4), ("offset", 5)]) rfl sc_deed_text.nd rfl rfl (sw_true rfl rfl rfl (by decide +kernel)) (vi_tup rfl (ve_ix (ix_LTK K) d_ix (ve_var (pv 0)) (ve_int pe_int) (fun _ _ => rfl))) (blkOk_by (N := ["deed", "reads", "numbers", "sign", "track", "offset", "item"]) (sc := defScope s_deed_text) (by decide +kernel)) (fun _ _ _ _ _ => (vg_tup (m := 2) rfl rfl (vgs_cons (vg_name (pg_name (i := 4) sc_deed_text.nd rfl (Or.inl rfl))) (vgs_cons (vg_name (pg_name (i := 5) sc_deed_text.nd rfl (Or.inl rfl))) vgs_nil)))) (fun _ _ _ _ _ => vts_nil) (fun _ _ _ _ _ => (ve_fs (.cons (ve_fmt (pe_fmt (ve_var (pv 4)))) (.cons (ve_str pe_str) (.cons (ve_fmt (pe_fmt (ve_var (pv 5)))) .nil)))))))
  (vss_cons (vs_setLc (ps_setLc (i := 2) (own := [("item", 6)]) rfl sc_deed_text.nd rfl rfl (sw_true rfl rfl rfl (by decide +kernel)) (vi_tup rfl (ve_ix (ix_LTK K) d_ix (ve_var (pv 0)) (ve_int pe_int) (fun _ _ => rfl))) (blkOk_by (N := ["deed", "reads", "numbers", "sign", "track", "offset", "item"]) (sc := defScope s_deed_text) (by decide +kernel)) (fun _ _ _ _ _ => (vg_name (pg_name (i := 6) sc_deed_text.nd rfl (Or.inl rfl)))) (fun _ _ _ _ _ => vts_nil) (fun _ _ _ _ _ => (ve_cb (pe_callTy call_str_int (by rfl) (T.free "str" rfl) boot_str (va_cons (ve_var (pv 6)) va_nil)) d_strI))))
  (vss_one (vs_ret (ps_ret (ve_join (pe_join (ve_str pe_str) (ve_op (op_addD K) d_add (ve_op (op_addD K) d_add (ve_op (op_addD K) d_add (ve_lst (va_cons (ve_str pe_str) (va_cons (ve_cb (pe_callTy call_str_int (by rfl) (T.free "str" rfl) boot_str (va_cons (ve_ix (ix_LTK K) d_ix (ve_var (pv 0)) (ve_int pe_int) (fun _ _ => rfl)) va_nil)) d_strI) va_nil))) (ve_var (pv 1))) (ve_lst (va_cons (ve_str pe_str) va_nil))) (ve_var (pv 2)))))))))))), ?_⟩)
  · rintro ds n Q E ⟨D, xs, rfl, _⟩; rfl
  · obtain ⟨D, xs, rfl, hs, hp, ok, hq⟩ := h
    have sm := dd_small hs hp ok
    cases D with
    | mv t x =>
      obtain ⟨lt, gt, _⟩ := ts_ok (sm t (.inl rfl)).1 (sm t (.inl rfl)).2
      obtain ⟨lx, gx, _⟩ := ts_ok (sm x (.inr rfl)).1 (sm x (.inr rfl)).2
      unfold dD
      walk_at "vin"
      walk_at "vw"
      refine y_js ?_
      walk_at "vw"
      refine y_js1 (by decide) (y_js (y_fmt ?_))
      walk_at "vw"
      have c1 : ((" " : Str)).length = 1 := by decide
      have c5 : (Str.empty ++ ("move " : Str)).length = 5 := by decide
      refine y_fmt2 gt ?_
      refine y_js1 ?_ (y_js ?_)
      · rw [app_len, c5]; simp only [tS] at *; omega
      walk_at "vw"
      refine y_js1 ?_ (y_js (y_fmt ?_))
      · rw [app_len, app_len, c5, c1]; simp only [tS] at *; omega
      walk_at "vw"
      refine y_fmt2 gx ?_
      refine y_js1 ?_ (y_jsN ?_)
      · rw [app_len, app_len, app_len, c5, c1]; simp only [tS] at *; omega
      walk_at "vw"
      rw [move_text]
      exact hq
    | sw ns =>
      have hn : ns.length ≤ 64 := by have := ok.1; omega
      unfold dD
      walk_at "vin"
      walk_at "vw"
      refine y_join1 ?_
      walk_at "vw"
      refine VF.y_lcA ns VF.DV.int (fun i => .str (tS i)) rfl (by omega) (fun j i acc R hj hacc hR => ?_) ?_
      · obtain ⟨_, gi, _⟩ := ts_ok (sm i (List.mem_of_getElem? hj)).1 (sm i (List.mem_of_getElem? hj)).2
        walk_at "vw"
        refine y_strI gi ?_
        walk_at "vw"
        exact hR
      · walk_at "vw"
        refine VF.y_addL (by simp; omega) ?_
        walk_at "vw"
        have e : ([VF.DV.str "swap"] ++ ns.map fun i => VF.DV.str (tS i)) = (wordsD (.sw ns)).map VF.DV.str := by simp [wordsD, Function.comp_def]
        rw [e]
        refine y_join2 (ys := wordsD (.sw ns)) ?_ ?_
        · have h1 := sum_le (ws := wordsD (.sw ns)) (m := 4) fun x hx => by
            rcases List.mem_cons.mp hx with e | hx
            · rw [e]; decide
            · obtain ⟨i, hi, rfl⟩ := List.mem_map.mp hx
              exact (ts_ok (sm i hi).1 (sm i hi).2).1
          have h2 : (wordsD (.sw ns)).length = ns.length + 1 := by simp [wordsD]
          have c1 : ((" " : Str)).length = 1 := by decide
          rw [c1]
          omega
        · walk_at "vw"
          exact hq
    | ad t rs tab =>
      obtain ⟨lt, gt, _⟩ := ts_ok (sm t (.inl rfl)).1 (sm t (.inl rfl)).2
      obtain ⟨h1, h2, h3, h4, h5, h6, h7⟩ := ok
      have hl := hs.2
      have pb := prod_bd (xs := rs.map fun r => at' xs r.1) fun v hv => by
        obtain ⟨r, hr, rfl⟩ := List.mem_map.mp hv
        exact hs.1 _ (getD_mem (h4 r hr).1 (h4 r hr).2.1)
      have pw : (64 : Int) ^ (rs.map fun r => at' xs r.1).length ≤ 262144 := by
        rw [List.length_map]
        have := Nat.pow_le_pow_right (n := 64) (by decide) h3
        have e : (64 : Int) ^ rs.length = ((64 ^ rs.length : Nat) : Int) := by simp
        rw [e]; omega
      have ht : tab.length ≤ 262144 := by omega
      have c1 : ((" " : Str)).length = 1 := by decide
      have cc : ((":" : Str)).length = 1 := by decide
      have rl : ∀ r ∈ rs, (tS r.1).length ≤ 4 ∧ (tS r.2).length ≤ 4 ∧ r.1.natAbs.log2 < 1920 ∧ r.2.natAbs.log2 < 1920 := fun r hr => by
        have s1 := sm r.1 (.inr (.inr ⟨r, hr, .inl rfl⟩))
        have s2 := sm r.2 (.inr (.inr ⟨r, hr, .inr rfl⟩))
        exact ⟨(ts_ok s1.1 s1.2).1, (ts_ok s2.1 s2.2).1, (ts_ok s1.1 s1.2).2.1, (ts_ok s2.1 s2.2).2.1⟩
      unfold dD
      walk_at "vin"
      walk_at "vw"
      refine VF.y_lcA rs rD (fun r => .str (rdS r)) rfl (by omega) (fun j r acc R hj hacc hR => ?_) ?_
      · obtain ⟨l1, l2, g1, g2⟩ := rl r (List.mem_of_getElem? hj)
        unfold rD
        walk_at "vw"
        refine y_js (y_fmt ?_)
        walk_at "vw"
        refine y_fmt2 g1 ?_
        refine y_js1 ?_ (y_js ?_)
        · rw [app_len]; have : Str.empty.length = 0 := rfl
          simp only [tS] at *; omega
        walk_at "vw"
        have e0 : Str.empty ++ tS r.1 = tS r.1 := TL.ext_tl (by rw [TL.tl_append]; rfl)
        rw [e0]
        refine y_js1 ?_ (y_js (y_fmt ?_))
        · rw [app_len, cc]; omega
        walk_at "vw"
        refine y_fmt2 g2 ?_
        refine y_js1 ?_ (y_jsN ?_)
        · rw [app_len, app_len, cc]; simp only [tS] at *; omega
        walk_at "vw"
        exact hR
      · walk_at "vw"
        refine VF.y_lcA tab VF.DV.int (fun i => .str (tS i)) rfl (by omega) (fun j i acc R hj hacc hR => ?_) ?_
        · obtain ⟨_, gi, _⟩ := ts_ok (sm i (.inr (.inl (List.mem_of_getElem? hj)))).1 (sm i (.inr (.inl (List.mem_of_getElem? hj)))).2
          walk_at "vw"
          refine y_strI gi ?_
          walk_at "vw"
          exact hR
        · walk_at "vw"
          refine y_join1 ?_
          walk_at "vw"
          refine y_strI gt ?_
          walk_at "vw"
          refine VF.y_addL (by simp; omega) ?_
          walk_at "vw"
          refine VF.y_addL (by simp; omega) ?_
          walk_at "vw"
          refine VF.y_addL (by simp; omega) ?_
          walk_at "vw"
          have e : (([VF.DV.str "add", VF.DV.str (tS t)] ++ rs.map fun r => VF.DV.str (rdS r)) ++ [VF.DV.str "="] ++ tab.map fun i => VF.DV.str (tS i)) = (wordsD (.ad t rs tab)).map VF.DV.str := by simp [wordsD, Function.comp_def]
          rw [e]
          refine y_join2 (ys := wordsD (.ad t rs tab)) ?_ ?_
          · have q1 := sum_le (ws := wordsD (.ad t rs tab)) (m := 9) fun x hx => by
              rcases List.mem_append.mp hx with hx | hx
              · rcases List.mem_append.mp hx with hx | hx
                · rcases List.mem_append.mp hx with hx | hx
                  · rcases List.mem_cons.mp hx with e | hx
                    · rw [e]; decide
                    · rw [List.mem_singleton.mp hx]; omega
                  · obtain ⟨r, hr, rfl⟩ := List.mem_map.mp hx
                    obtain ⟨l1, l2, _⟩ := rl r hr
                    rw [rdS, app_len, app_len, cc]; omega
                · rw [List.mem_singleton.mp hx]; decide
              · obtain ⟨i, hi, rfl⟩ := List.mem_map.mp hx
                have := (ts_ok (sm i (.inr (.inl hi))).1 (sm i (.inr (.inl hi))).2).1
                omega
            have q2 : (wordsD (.ad t rs tab)).length = rs.length + tab.length + 3 := by simp [wordsD]; omega
            rw [c1]
            omega
          · walk_at "vw"
            exact hq
theorem y_text {D : Dd} {xs : List Int} {n : Int} {Q : VF.DV → Int → Prop} {E : XV} (hs : SzOk xs) (hp : prod xs ≤ 64) (h : DdOk xs D) (q : Q (.str (textD D)) n) : sText ([dD D] ++ []) n Q E := ⟨D, xs, rfl, hs, hp, h, q⟩
end
end BF
/-! ## track_values, by data -/
namespace BF
open PySem PySem.Spec PyProof.Rows L2 VF
/-- the digits from the last size on, and what is left -/
def dgs : List Int → Int → List Int
  | [], _ => []
  | x :: r, s => s % x :: dgs r (s / x)
def rst : List Int → Int → Int
  | [], s => s
  | x :: r, s => rst r (s / x)
theorem dgs_app {a b : List Int} {s : Int} : dgs (a ++ b) s = dgs a s ++ dgs b (rst a s) := by
  induction a generalizing s with
  | nil => rfl
  | cons x a ih => simp only [List.cons_append, dgs, rst, ih]
theorem rst_app {a b : List Int} {s : Int} : rst (a ++ b) s = rst b (rst a s) := by
  induction a generalizing s with
  | nil => rfl
  | cons x a ih => simp only [List.cons_append, rst, ih]
theorem dgs_len {a : List Int} {s : Int} : (dgs a s).length = a.length := by
  induction a generalizing s with
  | nil => rfl
  | cons x a ih => simp [dgs, ih]
theorem rst_bd : ∀ {a : List Int} {s : Int}, (∀ x ∈ a, 1 ≤ x) → 0 ≤ s → 0 ≤ rst a s ∧ rst a s ≤ s
  | [], s, _, h => ⟨h, Int.le_refl _⟩
  | x :: a, s, ha, h => by
    have hx := ha x List.mem_cons_self
    have h1 : 0 ≤ s / x := Int.ediv_nonneg h (by omega)
    have h2 : s / x ≤ s := Int.ediv_le_self _ h
    obtain ⟨k1, k2⟩ := rst_bd (a := a) (s := s / x) (fun y hy => ha y (List.mem_cons_of_mem _ hy)) h1
    exact ⟨k1, Int.le_trans k2 h2⟩
theorem take_snoc {α : Type} {l : List α} {i : Nat} {x : α} (h : l[i]? = some x) : l.take (i + 1) = l.take i ++ [x] := by
  rw [List.take_succ, h]; rfl
/-- the track values of a sign -/
def trk (xs : List Int) (s : Int) : List Int := (dgs xs.reverse s).reverse
theorem y_listS {d : VF.DV} {es : List VF.DV} {P : DP} (e : seqOf d = some es) (q : P (.lst es)) : wList [d] P := by
  cases d <;> cases e <;> exact q
section
variable {P : Program} {w : World} {K : PySem.W.Frag} {mg : Str → Option Value} {base : Heap}
def sTrack : DSp := fun ds n Q _ => ∃ z xs s, ds = [z, .int s] ∧ SqD z (VF.iD xs) ∧ SzOk xs ∧ 0 ≤ s ∧ s ≤ 1000000000000 ∧ Q (.tup (VF.iD (trk xs s))) n
theorem sc_track_values : FnScope ["sizes", "sign", "values", "size"] ["sizes", "sign"] (defScope s_track_values) := ⟨rfl, rfl, rfl, by decide +kernel, rfl, by decide +kernel, by decide +kernel⟩
theorem v_track_values (T : TT K mg) : FnOk P w K mg base (L2.CX P w) 1 (He.ga K "track_values") (fdOf K ("track_values", none)) ["sizes", "sign"] (liftSp K (Cs K) sTrack) := by
  refine v_ok (F_track_values T) sc_track_values (by decide) (by decide) ?_ (fun cdv A outer s H W ds n Q' hC hE hr h => ⟨_, (vss_cons (vs_setO (ps_set (i := 2) sc_track_values.nd rfl (Or.inl rfl) (vo_lst va_nil)))
  (vss_cons (vs_for (passes_of rfl) rfl (vi_revA rfl (RT.pi_revA (by rfl) (T.free "reversed" rfl) (ve_cb (pe_callTy (call_listLTK K) (by rfl) (T.free "list" rfl) boot_list (va_cons (ve_var (pv 0)) va_nil)) d_list))) (vg_name (pg_name (i := 3) sc_track_values.nd rfl (Or.inl rfl))) (vss_cons (vs_app (ps_expr (pe_bm PySem.F.plainAttrs_list PySem.F.slot_list_append PySem.F.type_list_append mt_append (pv 2) (va_cons (ve_op op_mod d_I (ve_var (pv 1)) (ve_var (pv 3))) va_nil))))
  (vss_one (vs_set (ps_set (i := 1) sc_track_values.nd rfl (Or.inl rfl) (ve_op op_fdivW d_I (ve_var (pv 1)) (ve_var (pv 3))))))))
  (vss_one (vs_ret (ps_ret (ve_cb (pe_callTy (call_tupLTK K) (by rfl) (T.free "tuple" rfl) boot_tuple (va_cons (ve_revL (pe_revL (ve_var (pv 2)))) va_nil)) d_tuple)))))), ?_⟩)
  · rintro ds n Q E ⟨z, xs, s, rfl, _⟩; rfl
  · obtain ⟨z, xs, s, rfl, hz, hs, s0, s1, hq⟩ := h
    have hl := hs.2
    walk_at "vin"
    walk_at "vw"
    refine VF.y_revA ?_
    walk_at "vw"
    refine y_listS (sq_of hz) ?_
    refine ⟨VF.iD xs, .inl rfl, ?_⟩
    rw [show (VF.iD xs).reverse = VF.iD xs.reverse from (List.map_reverse ..).symm]
    refine VF.y_loop (fun i τ n' => n' = n ∧ ∃ o, τ = [some (.d z), some (.d (.int (rst (xs.reverse.take i) s))), some (.own (VF.iD (dgs (xs.reverse.take i) s))), o]) ⟨rfl, _, rfl⟩ ?_ ?_
    · rintro i d τ n' hi ⟨rfl, o, rfl⟩
      rw [List.getElem?_map] at hi
      obtain ⟨x, hx, rfl⟩ := Option.map_eq_some_iff.mp hi
      obtain ⟨x1, x2⟩ := hs.1 x (List.mem_reverse.mp (List.mem_of_getElem? hx))
      obtain ⟨r0, r1⟩ := rst_bd (a := xs.reverse.take i) (s := s) (fun y hy => (hs.1 y (List.mem_reverse.mp (List.mem_of_mem_take hy))).1) s0
      have ln : (VF.iD (dgs (xs.reverse.take i) s)).length ≤ 6 := by
        rw [List.length_map, dgs_len, List.length_take, List.length_reverse]; omega
      walk_at "vw"
      refine VF.y_app2 rfl (by omega) ?_
      walk_at "vw"
      refine ⟨rfl, some (.d (.int x)), ?_⟩
      rw [take_snoc hx, dgs_app, rst_app]
      simp [dgs, rst, VF.iD]
    · rintro τ n' ⟨rfl, o, rfl⟩
      have e : xs.reverse.take (VF.iD xs.reverse).length = xs.reverse := by rw [List.length_map, List.take_length]
      rw [e]
      walk_at "vw"
      rw [show (VF.iD (dgs xs.reverse s)).reverse = VF.iD (trk xs s) from (List.map_reverse ..).symm]
      exact hq
theorem y_track {z : VF.DV} {xs : List Int} {s n : Int} {Q : VF.DV → Int → Prop} {E : XV} (hz : SqD z (VF.iD xs)) (hs : SzOk xs) (h0 : 0 ≤ s) (h1 : s ≤ 1000000000000) (q : Q (.tup (VF.iD (trk xs s))) n) : sTrack ([z, .int s] ++ []) n Q E := ⟨z, xs, s, rfl, hz, hs, h0, h1, q⟩
end
end BF
/-! ## Deeds taken back: plain -/
namespace BF
open PySem VF
/-- a permutation of the numbers below its length -/
def PermN (ns : List Int) : Prop := (∀ v ∈ ns, 0 ≤ v ∧ v ≤ (ns.length : Int) - 1) ∧ ns.Nodup
theorem perm_mem {ns : List Int} (h : PermN ns) {k : Nat} (hk : k < ns.length) : (k : Int) ∈ ns := by
  refine Classical.byContradiction fun hn => ?_
  have q := GA.card_le (ks := ns) (ns := ((List.range ns.length).map fun (i : Nat) => (i : Int)).erase (k : Int)) h.2 fun x hx => by
    obtain ⟨h1, h2⟩ := h.1 x hx
    have ne : x ≠ (k : Int) := fun e => hn (by rw [← e]; exact hx)
    refine (List.mem_erase_of_ne ne).mpr (List.mem_map.mpr ⟨x.toNat, List.mem_range.mpr (by omega), by omega⟩)
  rw [List.length_erase_of_mem (List.mem_map.mpr ⟨k, List.mem_range.mpr hk, rfl⟩), List.length_map, List.length_range] at q
  omega
theorem idx_lt {ns : List Int} {v : Int} (h : v ∈ ns) : ns.idxOf v < ns.length := List.idxOf_lt_length_iff.mpr h
theorem idx_get {ns : List Int} {v : Int} (h : v ∈ ns) : ns[ns.idxOf v]? = some v := by
  rw [List.getElem?_eq_getElem (idx_lt h)]
  exact congrArg some (List.getElem_idxOf (idx_lt h))
theorem nd_idx {ns : List Int} (h : ns.Nodup) {i j : Nat} {v : Int} (hi : ns[i]? = some v) (hj : ns[j]? = some v) : i = j := by
  obtain ⟨li, ei⟩ := List.getElem?_eq_some_iff.mp hi
  obtain ⟨lj, ej⟩ := List.getElem?_eq_some_iff.mp hj
  rcases Nat.lt_trichotomy i j with c | c | c
  · exact absurd (ei.trans ej.symm) (List.pairwise_iff_getElem.mp h i j li lj c)
  · exact c
  · exact absurd (ej.trans ei.symm) (List.pairwise_iff_getElem.mp h j i lj li c)
theorem idx_of {ns : List Int} (h : ns.Nodup) {i : Nat} {v : Int} (hi : ns[i]? = some v) : ns.idxOf v = i := nd_idx h (idx_get (List.mem_of_getElem? hi)) hi
def invT (ns : List Int) : List Int := (List.range ns.length).map fun (k : Nat) => ((ns.idxOf (k : Int) : Nat) : Int)
def bk (ns : List Int) (i : Nat) : List Int := (List.range ns.length).map fun (k : Nat) => if ns.idxOf (k : Int) < i then ((ns.idxOf (k : Int) : Nat) : Int) else 0
theorem bk_len {ns : List Int} {i : Nat} : (bk ns i).length = ns.length := by simp [bk]
theorem bk_zero {ns : List Int} : bk ns 0 = ns.map fun _ => 0 := by
  refine List.ext_getElem? fun j => ?_
  simp only [bk, List.getElem?_map, List.getElem?_range', Nat.not_lt_zero, if_false]
  by_cases h : j < ns.length
  · rw [List.getElem?_range h, List.getElem?_eq_getElem h]; rfl
  · rw [List.getElem?_eq_none (by simpa using h), List.getElem?_eq_none (by simpa using h)]; rfl
theorem bk_set {ns : List Int} (h : PermN ns) {i : Nat} {v : Int} (hi : ns[i]? = some v) : (bk ns i).set v.toNat (i : Int) = bk ns (i + 1) := by
  obtain ⟨v0, v1⟩ := h.1 v (List.mem_of_getElem? hi)
  have iv := idx_of h.2 hi
  refine List.ext_getElem? fun j => ?_
  by_cases hj : j < ns.length
  · by_cases e : v.toNat = j
    · subst e
      rw [List.getElem?_set_self (by rw [bk_len]; exact hj)]
      simp only [bk, List.getElem?_map]
      rw [List.getElem?_range hj]
      have ev : ((v.toNat : Nat) : Int) = v := Int.toNat_of_nonneg v0
      simp only [Option.map_some, ev, iv]
      rw [if_pos (Nat.lt_succ_self i)]
    · rw [List.getElem?_set_ne e]
      simp only [bk, List.getElem?_map]
      rw [List.getElem?_range hj]
      simp only [Option.map_some]
      have ne : ns.idxOf (j : Int) ≠ i := fun q => by
        have hm := perm_mem h hj
        have g := idx_get hm
        rw [q, hi] at g
        have : v = (j : Int) := Option.some.inj g
        omega
      by_cases c : ns.idxOf (j : Int) < i
      · rw [if_pos c, if_pos (by omega)]
      · rw [if_neg c, if_neg (by omega)]
  · rw [List.getElem?_eq_none (by rw [List.length_set, bk_len]; omega), List.getElem?_eq_none (by rw [bk_len]; omega)]
theorem bk_all {ns : List Int} (h : PermN ns) : bk ns ns.length = invT ns := by
  refine List.map_congr_left fun k hk => ?_
  rw [if_pos (idx_lt (perm_mem h (List.mem_range.mp hk)))]
theorem invT_len {ns : List Int} : (invT ns).length = ns.length := by simp [invT]
theorem invT_at {ns : List Int} {k : Nat} (hk : k < ns.length) : (invT ns)[k]? = some ((ns.idxOf (k : Int) : Nat) : Int) := by
  simp only [invT, List.getElem?_map]
  rw [List.getElem?_range hk]; rfl
theorem invT_perm {ns : List Int} (h : PermN ns) : PermN (invT ns) := by
  refine ⟨fun v hv => ?_, ?_⟩
  · obtain ⟨k, hk, rfl⟩ := List.mem_map.mp hv
    have := idx_lt (perm_mem h (List.mem_range.mp hk))
    rw [invT_len]
    omega
  · refine List.pairwise_map.mpr (List.Pairwise.imp_of_mem (fun {a b} ha hb hne e => hne ?_) (List.nodup_range (n := ns.length)))
    have ga := idx_get (perm_mem h (List.mem_range.mp ha))
    have gb := idx_get (perm_mem h (List.mem_range.mp hb))
    rw [show ns.idxOf (a : Int) = ns.idxOf (b : Int) by omega, gb] at ga
    have := Option.some.inj ga
    omega
theorem invT_inv {ns : List Int} (h : PermN ns) : invT (invT ns) = ns := by
  refine List.ext_getElem? fun j => ?_
  by_cases hj : j < ns.length
  · rw [invT_at (by rw [invT_len]; exact hj), List.getElem?_eq_getElem hj]
    obtain ⟨v0, v1⟩ := h.1 ns[j] (List.getElem_mem hj)
    have hv : ns[j].toNat < ns.length := by omega
    have e := invT_at hv
    rw [Int.toNat_of_nonneg v0, idx_of h.2 (List.getElem?_eq_getElem hj)] at e
    rw [idx_of (invT_perm h).2 e, Int.toNat_of_nonneg v0]
  · rw [List.getElem?_eq_none (by rw [invT_len, invT_len]; omega), List.getElem?_eq_none (by omega)]
def inv (xs : List Int) : Dd → Dd
  | .mv t x => .mv t (-x)
  | .sw ns => .sw (invT ns)
  | .ad t rs tab => .ad t rs (tab.map fun v => (at' xs t - v) % at' xs t)
theorem at_ok {xs : List Int} (hs : SzOk xs) {t : Int} (h0 : 0 ≤ t) (h1 : t ≤ xs.length - 1) : 1 ≤ at' xs t ∧ at' xs t ≤ 64 := hs.1 _ (getD_mem h0 h1)
theorem sw_perm {xs ns : List Int} (h : DdOk xs (.sw ns)) : PermN ns := ⟨fun v hv => by rw [h.1]; exact h.2.1 v hv, h.2.2⟩
theorem inv_ok {xs : List Int} {D : Dd} (hs : SzOk xs) (h : DdOk xs D) : DdOk xs (inv xs D) := by
  cases D with
  | mv t x =>
    obtain ⟨h1, h2, h3, h4⟩ := h
    exact ⟨h1, h2, by omega, by omega⟩
  | sw ns =>
    have p := invT_perm (sw_perm h)
    refine ⟨by rw [invT_len]; exact h.1, fun v hv => ?_, p.2⟩
    have := p.1 v hv
    rw [invT_len, h.1] at this
    exact this
  | ad t rs tab =>
    obtain ⟨h1, h2, h3, h4, h5, h6, h7⟩ := h
    refine ⟨h1, h2, h3, h4, h5, by rw [List.length_map]; exact h6, fun v hv => ?_⟩
    obtain ⟨u, hu, rfl⟩ := List.mem_map.mp hv
    have := (at_ok hs h1 h2).1
    have a := Int.emod_nonneg (at' xs t - u) (show at' xs t ≠ 0 by omega)
    have b := Int.emod_lt_of_pos (at' xs t - u) (show 0 < at' xs t by omega)
    exact ⟨a, by omega⟩
theorem mod_back {s v : Int} (h0 : 0 ≤ v) (h1 : v ≤ s - 1) : (s - (s - v) % s) % s = v := by
  by_cases e : v = 0
  · subst e
    simp
  · rw [Int.emod_eq_of_lt (show 0 ≤ s - v by omega) (show s - v < s by omega)]
    rw [show s - (s - v) = v by omega]
    exact Int.emod_eq_of_lt h0 (by omega)
theorem inv_inv {xs : List Int} {D : Dd} (hs : SzOk xs) (h : DdOk xs D) : inv xs (inv xs D) = D := by
  cases D with
  | mv t x => simp [inv]
  | sw ns => simp [inv, invT_inv (sw_perm h)]
  | ad t rs tab =>
    obtain ⟨h1, h2, h3, h4, h5, h6, h7⟩ := h
    simp only [inv, List.map_map]
    congr 1
    refine (List.map_congr_left fun v hv => ?_).trans (List.map_id _)
    exact mod_back (h7 v hv).1 (h7 v hv).2
end BF
/-! ## inverse_deed, by data -/
namespace BF
open PySem PySem.Spec PyProof.Rows L2 VF
theorem ixN_of {k : Nat} {z : Int} (h0 : 0 ≤ z) (h1 : z < k) : ixN k z = some z.toNat := by
  unfold ixN
  rw [if_pos h0, if_pos h1]
section
variable {P : Program} {w : World} {K : PySem.W.Frag} {mg : Str → Option Value} {base : Heap}
theorem tab_le {xs : List Int} {t : Int} {rs : List (Int × Int)} {tab : List Int} (hs : SzOk xs) (h : DdOk xs (.ad t rs tab)) : tab.length ≤ 262144 := by
  obtain ⟨h1, h2, h3, h4, h5, h6, h7⟩ := h
  have pb := prod_bd (xs := rs.map fun r => at' xs r.1) fun v hv => by
    obtain ⟨r, hr, rfl⟩ := List.mem_map.mp hv
    exact hs.1 _ (getD_mem (h4 r hr).1 (h4 r hr).2.1)
  have pw : (64 : Int) ^ (rs.map fun r => at' xs r.1).length ≤ 262144 := by
    rw [List.length_map]
    have := Nat.pow_le_pow_right (n := 64) (by decide) h3
    have e : (64 : Int) ^ rs.length = ((64 ^ rs.length : Nat) : Int) := by simp
    rw [e]; omega
  omega
def sInv : DSp := fun ds n Q _ => ∃ z xs D, ds = [z, dD D] ∧ SqD z (VF.iD xs) ∧ SzOk xs ∧ prod xs ≤ 64 ∧ DdOk xs D ∧ Q (dD (inv xs D)) n
theorem sc_inverse_deed : FnScope ["sizes", "deed", "size", "back", "sign", "new", "item", "_"] ["sizes", "deed"] (defScope s_inverse_deed) := ⟨rfl, rfl, rfl, by decide +kernel, rfl, by decide +kernel, by decide +kernel⟩
theorem v_inverse_deed (T : TT K mg) : FnOk P w K mg base (L2.CX P w) 1 (He.ga K "inverse_deed") (fdOf K ("inverse_deed", none)) ["sizes", "deed"] (liftSp K (Cs K) sInv) := by
  refine v_ok (F_inverse_deed T) sc_inverse_deed (by decide) (by decide) ?_ (fun cdv A outer s H W ds n Q' hC hE hr h => ⟨_, (vss_cons (vs_if (vt_cmp (op_eqU K hr.units) d_eq (ve_ix (ix_LTK K) d_ix (ve_var (pv 1)) (ve_int pe_int) (fun _ _ => rfl)) (ve_str pe_str) (nomark _)) (vss_one (vs_ret (ps_ret (ve_tup (va_cons (ve_str pe_str) (va_cons (ve_ix (ix_LTK K) d_ix (ve_var (pv 1)) (ve_int pe_int) (fun _ _ => rfl)) (va_cons (ve_un un_neg d_neg (ve_ix (ix_LTK K) d_ix (ve_var (pv 1)) (ve_int pe_int) (fun _ _ => rfl))) va_nil))))))) vss_nil)
  (vss_cons (vs_if (vt_cmp (op_eqU K hr.units) d_eq (ve_ix (ix_LTK K) d_ix (ve_var (pv 1)) (ve_int pe_int) (fun _ _ => rfl)) (ve_str pe_str) (nomark _)) (vss_cons (vs_set (ps_set (i := 2) sc_inverse_deed.nd rfl (Or.inr rfl) (ve_ix (ix_LTK K) d_ix (ve_var (pv 0)) (ve_ix (ix_LTK K) d_ix (ve_var (pv 1)) (ve_int pe_int) (fun _ _ => rfl)) (fun _ _ => rfl))))
  (vss_one (vs_ret (ps_ret (ve_tup (va_cons (ve_str pe_str) (va_cons (ve_ix (ix_LTK K) d_ix (ve_var (pv 1)) (ve_int pe_int) (fun _ _ => rfl)) (va_cons (ve_ix (ix_LTK K) d_ix (ve_var (pv 1)) (ve_int pe_int) (fun _ _ => rfl)) (va_cons (ve_cb (pe_callTy (call_tupLTK K) (by rfl) (T.free "tuple" rfl) boot_tuple (va_cons (ve_ofO (vo_lc (pe_lc (own := [("item", 6)]) rfl sc_inverse_deed.nd (vi_tup rfl (ve_ix (ix_LTK K) d_ix (ve_var (pv 1)) (ve_int pe_int) (fun _ _ => rfl))) (blkOk_by (N := ["sizes", "deed", "size", "back", "sign", "new", "item", "_"]) (sc := defScope s_inverse_deed) (by decide +kernel)) (fun _ _ _ _ _ => (vg_name (pg_name (i := 6) sc_inverse_deed.nd rfl (Or.inl rfl)))) (fun _ _ _ _ _ => vts_nil) (fun _ _ _ _ _ => (ve_op op_mod d_I (ve_op op_sub d_I0 (ve_var (pv 2)) (ve_var (pv 6))) (ve_var (pv 2))))))) va_nil)) d_tuple) va_nil))))))))) vss_nil)
  (vss_cons (vs_setLcO (ps_setLc (i := 3) (own := [("_", 7)]) rfl sc_inverse_deed.nd rfl rfl (sw_true rfl rfl rfl (by decide +kernel)) (vi_tup rfl (ve_ix (ix_LTK K) d_ix (ve_var (pv 1)) (ve_int pe_int) (fun _ _ => rfl))) (blkOk_by (N := ["sizes", "deed", "size", "back", "sign", "new", "item", "_"]) (sc := defScope s_inverse_deed) (by decide +kernel)) (fun _ _ _ _ _ => (vg_name (pg_name (i := 7) sc_inverse_deed.nd rfl (Or.inl rfl)))) (fun _ _ _ _ _ => vts_nil) (fun _ _ _ _ _ => (ve_int pe_int))))
  (vss_cons (vs_for (passes_of rfl) rfl (vi_enT (GA.pi_enT (by rfl) (T.free "enumerate" rfl) (va_cons (ve_ix (ix_LTK K) d_ix (ve_var (pv 1)) (ve_int pe_int) (fun _ _ => rfl)) va_nil))) (vg_tup (m := 2) rfl rfl (vgs_cons (vg_name (pg_name (i := 4) sc_inverse_deed.nd rfl (Or.inl rfl))) (vgs_cons (vg_name (pg_name (i := 5) sc_inverse_deed.nd rfl (Or.inl rfl))) vgs_nil))) (vss_one (vs_setI (ps_asg (ve_var (pv 4)) (pg_sub (pv 3) (ve_var (pv 5)) set_list)))))
  (vss_one (vs_ret (ps_ret (ve_tup (va_cons (ve_str pe_str) (va_cons (ve_cb (pe_callTy (call_tupLTK K) (by rfl) (T.free "tuple" rfl) boot_tuple (va_cons (ve_var (pv 3)) va_nil)) d_tuple) va_nil)))))))))), ?_⟩)
  · rintro ds n Q E ⟨z, xs, D, rfl, _⟩; rfl
  · obtain ⟨z, xs, D, rfl, hz, hs, hp, ok, hq⟩ := h
    cases D with
    | mv t x =>
      unfold dD
      walk_at "vin"
      walk_at "vw"
      exact hq
    | ad t rs tab =>
      have hl := tab_le hs ok
      obtain ⟨h1, h2, h3, h4, h5, h6, h7⟩ := ok
      obtain ⟨a1, a2⟩ := at_ok hs h1 h2
      unfold dD
      walk_at "vin"
      walk_at "vw"
      refine y_ixS (sq_of hz) (atI_iD h1 h2) ?_
      walk_at "vw"
      refine VF.y_lcA tab VF.DV.int (fun v => .int ((at' xs t - v) % at' xs t)) rfl (by omega) (fun j v acc R hj hacc hR => ?_) ?_
      · have e : xs.getD t.toNat 0 = at' xs t := rfl
        rw [e]
        walk_at "vw"
        exact hR
      · walk_at "vw"
        have e : (tab.map fun v => VF.DV.int ((at' xs t - v) % at' xs t)) = VF.iD (tab.map fun v => (at' xs t - v) % at' xs t) := by simp [VF.iD, Function.comp_def]
        rw [e]
        exact hq
    | sw ns =>
      have pm := sw_perm ok
      have hn : ns.length ≤ 64 := by have := ok.1; omega
      unfold dD
      walk_at "vin"
      walk_at "vw"
      refine VF.y_lcA ns VF.DV.int (fun _ => .int 0) rfl (by omega) (fun j v acc R hj hacc hR => ?_) ?_
      · walk_at "vw"
        exact hR
      · walk_at "vw"
        refine ⟨VF.iD ns, rfl, ?_⟩
        refine VF.y_loop (fun i τ n' => n' = n ∧ ∃ o1 o2 o3 o4 o5, τ = [some (.d z), some (.d (.tup [.str "swap", .tup (VF.iD ns)])), o1, some (.own (VF.iD (bk ns i))), o2, o3, o4, o5]) ⟨rfl, none, none, none, none, none, by rw [bk_zero]; simp [VF.iD, Function.comp_def]⟩ ?_ ?_
        · rintro i d τ n' hi ⟨rfl, o1, o2, o3, o4, o5, rfl⟩
          obtain ⟨v, hv, rfl⟩ : ∃ v, ns[i]? = some v ∧ d = .tup [.int (i : Nat), .int v] := by
            have hl : i < ns.length := by
              have := (List.getElem?_eq_some_iff.mp hi).1
              rw [enumD_len, List.length_map] at this
              exact this
            refine ⟨ns[i], List.getElem?_eq_getElem hl, ?_⟩
            have e := enumD_at (xs := VF.iD ns) (i := i) (d := .int ns[i]) (by simp [hl])
            rw [e] at hi
            exact (Option.some.inj hi).symm
          obtain ⟨v0, v1⟩ := pm.1 v (List.mem_of_getElem? hv)
          walk_at "vw"
          refine VF.y_setI2 rfl (ixN_of v0 (by rw [List.length_map, bk_len]; omega)) ?_
          rw [show (VF.iD (bk ns i)).set v.toNat (.int (i : Nat)) = VF.iD (bk ns (i + 1)) by rw [← bk_set pm hv]; exact (List.map_set ..).symm]
          walk_at "vw"
          exact ⟨rfl, _, _, _, _, _, rfl⟩
        · rintro τ n' ⟨rfl, o1, o2, o3, o4, o5, rfl⟩
          rw [enumD_len, List.length_map, bk_all pm]
          walk_at "vw"
          exact hq
theorem y_inv {z : VF.DV} {xs : List Int} {D : Dd} {n : Int} {Q : VF.DV → Int → Prop} {E : XV} (hz : SqD z (VF.iD xs)) (hs : SzOk xs) (hp : prod xs ≤ 64) (h : DdOk xs D) (q : Q (dD (inv xs D)) n) : sInv ([z, dD D] ++ []) n Q E := ⟨z, xs, D, rfl, hz, hs, hp, h, q⟩
end
end BF
/-! ## C(d, ..) of a class whose __init__ has a star parameter, by data; what is never reached; gcd -/
namespace VF
open PySem PySem.Spec PyProof.Rows L2 StX
def wDead : WS := fun _ _ _ => False
theorem vs_dead {K : PySem.W.Frag} {W : Wc} {X : Cx} {st : Stmt} : PS X st (liftS K W wDead) := BF.PS.imp' BF.ps_dead fun _ _ _ ⟨_, _, _, _, _, _, hw, _⟩ => hw.elim
def wGcd : List DV → DP → Prop
  | [.int a, .int b], Q => Q (.int ((Nat.gcd a.natAbs b.natAbs : Nat) : Int))
  | _, _ => False
theorem d_gcd {K : PySem.W.Frag} : DCall K rGcd wGcd := fun b M H xs ds Q' Q al hd hw k => by
  cases hd with
  | nil => exact hw.elim
  | cons h1 hd => cases hd with
    | nil => cases h1 <;> exact hw.elim
    | cons h2 hd => cases hd with
      | cons _ _ => cases h1 <;> cases h2 <;> exact hw.elim
      | nil =>
        cases h1 with
        | int i =>
          cases h2 with
          | int j => exact ⟨i, j, rfl, k _ H _ (BF.Ex.refl H) (.int _) hw⟩
          | _ => exact hw.elim
        | _ => cases h2 <;> exact hw.elim
section
variable {K : PySem.W.Frag}
/-- the promise of an __init__ with one parameter and a star: positional -/
def spStar (K : PySem.W.Frag) (Cs : Cf → Prop) (cl : Str) (sp : ISp) : Sp := fun vs H Q E => ∃ ws rest : List V, vs = ws ++ rest ∧ ws.length = 2 ∧ rest.length ≤ sizeLine ∧ ∀ p, H p = none → liftSpI K Cs cl sp (ws ++ [V.ref p]) (upd H p (.tup rest)) Q E
theorem v_okIS {P : Program} {w : World} {mg : Str → Option Value} {base : Heap} {Cs : Cf → Prop} {sp : ISp} {cl x qual p1 p2 pv : Str} {params : Arguments} {body : List Stmt} {scope : Scope} {f : Addr} {fd : FuncData} {N : List Str} {k : Nat}
    (F : FunD K x qual params body scope [] [] f fd) (S : FnScope N ([p1, p2] ++ [pv]) scope) (hN : N.length < 1000000) (hp : 3 ≤ N.length) (hlen : ∀ ds n Q E, sp ds n Q E → ds.length = 2)
    (hb : ∀ (kV doc pm : Value) (an : Option Addr) (cdv ct : Value) (us rest : List Value), us.length = 2 → bindArgs (PySem.W.fnOf x qual params body scope .none kV doc pm an cdv ct) ⟨us ++ rest, []⟩ = (newTuple rest >>= fun t => pure ([p1, p2].zip us ++ [(pv, t)])))
    (hbody : ∀ (cdv : Value) (A : Around) (outer : List Env) (s : Shared) (H : Hp) (W : Wc) (ds : List DV) (n : Int) (Q' : List Str → List DV → Int → Prop) (z : Addr), Cs W.toCf → ELink K W → Room k (A.deeper (envOfC qual scope s.heap.objs.size f cdv)) → sp ds n Q' W.E' →
      ∃ wd, PSs (cxOf (L2.CX P w) P w K mg base N qual scope f cdv A outer s H W.E) body (liftS K W wd) ∧ wd { nx := fun τ n => ∃ ns es, τ[0]? = some (some (.self z cl ns es)) ∧ Q' ns es n, rt := fun _ _ => False } (startI N z cl ds) n) :
    FnR P w K mg base (L2.CX P w) (k + 1) f (spStar K Cs cl sp) := by
  obtain ⟨oc, od, dV, kV, doc, pm, an, cdv, ct, osl, rfl, lk, hcd, hD, _⟩ := F.ex
  obtain rfl : dV = .none := by
    rcases hD with ⟨_, e⟩ | ⟨e, _⟩
    · exact e
    · exact absurd rfl e
  refine fn_star (ps := [p1, p2]) lk hcd S cxUp (hb kV doc pm an cdv ct) fun A outer s H vs Q E hr h => ?_
  obtain ⟨C, M, n, ds, Q', E', x, dx, us, rfl, hC, hb, xm, xb, al, bag, tab, hd, hx, hsp, hQ, hE⟩ := h
  have hl := hlen _ _ _ _ hsp
  have e := hd.length
  obtain ⟨wd, h1, h2⟩ := hbody cdv A outer s H ⟨C, [C.b, x], M, H, hb, by simp, E', E⟩ ds n Q' x hC (fun c ns ws es dd H' n' ey al' bag' tab' h1 h2 h3 h4 => hE c ns ws es dd H' n' ey al' bag' tab' h1 h2 h3 h4) hr hsp
  refine ⟨_, h1, [], [(0, x)], _, n, _, ?_, h2, fun σ' H' τ' n' O' q ⟨ns, es, hx', hq⟩ => ?_, fun _ _ _ _ _ _ h => h.elim, fun _ _ _ _ _ _ h => h.elim, fun v H' d n' r hq => hq.elim⟩
  · refine ⟨by simp [startI, L2.start, e], by simp [startI]; omega, fun i s hs => ?_, nofun, by simp [ad], fun p hp => ?_, Ey.refl H, bag, ⟨n, bag⟩, tab, fun y hy => ?_, al, fun y hy => ?_⟩
    · cases i with
      | zero =>
        cases hs
        exact ⟨.ref x, rfl, dx, [], rfl, by simp, hx, rfl, .nil⟩
      | succ i =>
        unfold startI at hs
        rw [List.getElem?_cons_succ] at hs
        by_cases hi : i < ds.length
        · rw [List.getElem?_append_left (by simpa using hi), List.getElem?_map] at hs
          obtain ⟨d, hd', e'⟩ := Option.map_eq_some_iff.mp hs
          cases e'
          obtain ⟨v, hv, k⟩ := hd.at hd'
          refine ⟨v, ?_, k⟩
          unfold L2.start
          rw [List.map_cons, List.cons_append, List.getElem?_cons_succ, List.getElem?_append_left (by simpa [e] using hi), List.getElem?_map, hv]
          rfl
        · rw [List.getElem?_append_right (by simpa using hi), List.getElem?_replicate] at hs
          split at hs <;> cases hs
    · rw [List.mem_singleton.mp hp]
      exact ⟨fun o _ => .inl (by simp), xm, xb⟩
    · rcases List.mem_append.mp hy with hy | hy
      · rw [show y = x by simpa [ad] using hy]
        exact ⟨_, hx, .inr ⟨_, _, _, rfl⟩⟩
      · exact al y hy
    · rcases List.mem_cons.mp hy with rfl | hy
      · exact .inl rfl
      · rw [List.mem_singleton.mp hy]
        exact .inr xm
  · obtain ⟨v, hv, dx', ws, e1, e2, e3, e4, e5⟩ := q.slot 0 _ hx'
    exact hQ H' dx' ws ns es n' q.ext (fun y hy => q.al y (List.mem_append_right _ hy)) q.bag q.tab e3 e4 (DatL.sub (fun y hy => List.mem_append_right _ hy) e5) hq
variable {W : Wc} {X : Cx} {e : Expr} {wr : WA} {Cs : Cf → Prop}
def wMakeS (cl : Str) (sp : ISp) (E' : XV) (wr : WA) : WE := fun τ n Q => wr τ n fun ds τ1 n1 => ∃ d rest, ds = d :: rest ∧ rest.length ≤ 1000000 ∧ sp [d, .tup rest] n1 (fun ns es n2 => Q (.ins cl ns es) τ1 n2) E'
theorem y_makeS {cl : Str} {sp : ISp} {E' : XV} {τ : ST} {n : Int} {Q : DV → ST → Int → Prop} (k : wr τ n fun ds τ1 n1 => ∃ d rest, ds = d :: rest ∧ rest.length ≤ 1000000 ∧ sp [d, .tup rest] n1 (fun ns es n2 => Q (.ins cl ns es) τ1 n2) E') : wMakeS cl sp E' wr τ n Q := k
theorem ve_makeS {cl : Str} {sp : ISp} {E' : XV} {E : XK} (hC : Cs W.toCf) (hE : ELinkG K W E' E) (h : PE X e (tMakeR (He.ga K cl) (spStar K Cs cl sp) E (liftA K W wr))) : PE X e (liftE K W (wMakeS cl sp E' wr)) := by
  refine BF.PE.imp h fun σ H Q ⟨Γ, O, τ, n, Q', q, hw, k⟩ => ?_
  refine ⟨Γ, O, τ, n, _, q, hw, fun vs H1 ds O1 τ1 n1 q1 d1 ⟨d, rest, ed, hl, hw1⟩ => fun x dx hx0 hdx hne => ?_⟩
  subst ed
  cases d1 with
  | @cons v us _ _ dv dl =>
    have e1 : BF.Ex [] H1 (upd H1 dx (.own x)) := BF.Ex.new hdx
    have hx1 : (upd H1 dx (.own x)) x = none := by rw [upd_ne (Ne.symm hne)]; exact hx0
    have e2 : BF.Ex [] (upd H1 dx (.own x)) (upd (upd H1 dx (.own x)) x (.ins (He.ga K cl) dx [])) := BF.Ex.new hx1
    have ex : BF.Ex [] H1 (upd (upd H1 dx (.own x)) x (.ins (He.ga K cl) dx [])) := fun y o m z => e2 y o m (e1 y o m z)
    refine ⟨[.ref x, v], us, rfl, rfl, by rw [dl.length]; exact BF.sz_of hl, fun p hp0 => ?_⟩
    have e3 : BF.Ex [] (upd (upd H1 dx (.own x)) x (.ins (He.ga K cl) dx [])) (upd (upd (upd H1 dx (.own x)) x (.ins (He.ga K cl) dx [])) p (.tup us)) := BF.Ex.new hp0
    have exx : BF.Ex [] H1 (upd (upd (upd H1 dx (.own x)) x (.ins (He.ga K cl) dx [])) p (.tup us)) := fun y o m z => e3 y o m (ex y o m z)
    have xm : x ∉ ad O1 ++ W.M0 := q1.al.out hx0
    have hpx : p ≠ x := fun z => by rw [z, upd_same] at hp0; cases hp0
    have hxp : (upd (upd (upd H1 dx (.own x)) x (.ins (He.ga K cl) dx [])) p (.tup us)) x = some (.ins (He.ga K cl) dx []) := by rw [upd_ne (Ne.symm hpx)]; exact upd_same
    have q2 := q1.ex exx
    have pm : p ∉ x :: (ad O1 ++ W.M0) := fun z => by
      rcases List.mem_cons.mp z with z | z
      · exact hpx z
      · obtain ⟨o, ho, _⟩ := (q1.ex ex).al p z
        rw [ho] at hp0
        cases hp0
    have dd : DatL K W.b (x :: (ad O1 ++ W.M0)) (upd (upd (upd H1 dx (.own x)) x (.ins (He.ga K cl) dx [])) p (.tup us)) [v, .ref p] [d, .tup rest] :=
      .cons (Dat.ey (Ey.ex0 exx) (Dat.fresh hx0 dv)) (.cons (.tup (TsM.of upd_same pm) (DatL.ey (Ey.ex0 exx) (DatL.fresh hx0 dl))) .nil)
    refine ⟨W.toCf, ad O1 ++ W.M0, n1, [d, .tup rest], _, E', x, dx, [v, .ref p], rfl, hC, List.mem_append_right _ W.bm, xm, fun z => ?_, q2.al, q2.bag, q2.tab, dd, hxp, hw1, fun H3 dx' ws ns es n' ey al' bag' tab' h1 h2 h3 hq => ⟨rfl, ?_⟩, fun c ns ws es dd H3 n' ey al' bag' tab' h1 h2 h3 h4 => ?_⟩
    · obtain ⟨o, ho, _⟩ := W.Ba q1.bag x z
      rw [hx0] at ho
      cases ho
    · exact k (.ref x) H3 _ O1 τ1 n' (q1.step (ey_new hx0 exx ey) bag' tab' al') (.ins h1 xm h2 h3) hq
    · have e1 := ey_new hx0 exx ey
      exact hE c ns ws es dd H3 n' (q1.ext.tr (e1.sub fun y hy => by rw [List.mem_singleton.mp hy]; exact W.bd)) (fun y hy => al' y (sub_M0 y hy)) bag' tab' h1 h2 (DatL.sub sub_M0 h3) h4
end
end VF
/-! ## Ratios of counts, powers, spans and flows of programs, by data -/
namespace BF
open PySem PySem.Spec PyProof.Rows L2 VF
def bnd (k : Nat) : Int := 64 ^ (2 ^ k)
theorem bnd_pos (k : Nat) : 1 ≤ bnd k := by
  have : (0 : Int) < 64 ^ (2 ^ k) := Int.pow_pos (by decide)
  exact this
theorem bnd_sq (k : Nat) : bnd (k + 1) = bnd k * bnd k := by
  unfold bnd
  rw [show 2 ^ (k + 1) = 2 ^ k + 2 ^ k by rw [Nat.pow_succ]; omega, Int.pow_add]
theorem bnd_le {k l : Nat} (h : k ≤ l) : bnd k ≤ bnd l := by
  induction l with
  | zero => rw [show k = 0 by omega]; exact Int.le_refl _
  | succ l ih =>
    by_cases e : k = l + 1
    · rw [e]; exact Int.le_refl _
    · have h1 := ih (by omega)
      have h2 := bnd_pos l
      rw [bnd_sq]
      have := Int.mul_le_mul_of_nonneg_left h2 (show 0 ≤ bnd l by omega)
      omega
theorem log_of {a : Int} {k : Nat} (h0 : 0 ≤ a) (h1 : a ≤ bnd k) (hk : k ≤ 10) : a.natAbs.log2 < 9000 := by
  by_cases e : a.natAbs = 0
  · rw [e]; decide
  · rw [Nat.log2_lt e]
    have h2 : a ≤ bnd 10 := Int.le_trans h1 (bnd_le hk)
    have h3 : a.natAbs ≤ 64 ^ (2 ^ 10) := by
      have e1 : bnd 10 = ((64 ^ (2 ^ 10) : Nat) : Int) := by unfold bnd; simp
      rw [e1] at h2
      omega
    have h4 : 64 ^ (2 ^ 10) < 2 ^ 9000 := by
      have : (64 : Nat) ^ (2 ^ 10) = 2 ^ 6144 := by
        rw [show (64 : Nat) = 2 ^ 6 from rfl, ← Nat.pow_mul]
      rw [this]
      exact Nat.pow_lt_pow_right (by decide) (by decide)
    omega
theorem cmulB {a b : Int} {k l : Nat} (a0 : 0 ≤ a) (a1 : a ≤ bnd k) (hk : k ≤ 10) (b0 : 0 ≤ b) (b1 : b ≤ bnd l) (hl : l ≤ 10) : CMulW a b := by
  have := log_of a0 a1 hk
  have := log_of b0 b1 hl
  show _ + _ < _
  omega
theorem cdivB {a b : Int} {k l : Nat} (a0 : 0 ≤ a) (a1 : a ≤ bnd k) (hk : k ≤ 10) (b0 : 0 < b) (b1 : b ≤ bnd l) (hl : l ≤ 10) : CDivW a b := by
  have := log_of (by omega) b1 hl
  exact ⟨b0, this⟩
theorem y_gcd {a b : Int} {g : Nat} {P : DP} (h : Nat.gcd a.natAbs b.natAbs = g) (q : P (.int (g : Int))) : wGcd [.int a, .int b] P := by
  show P (.int ((Nat.gcd a.natAbs b.natAbs : Nat) : Int))
  rw [h]
  exact q
theorem y_setF {K : PySem.W.Frag} {i : Nat} {f : Str} {we : WE} {D : WEnds} {τ : VF.ST} {n : Int} (k : we τ n fun d τ1 n1 => ∃ z c ns ds, τ1[i]? = some (some (.self z c ns ds)) ∧ AtOk K c f ∧ ns.length < 100 ∧ D.nx (τ1.set i (some (.self z c (pfN f ns) (pfD f d ns ds)))) n1) : wSetF K i f we D τ n := k
theorem y_setF2 {K : PySem.W.Frag} {i : Nat} {f c : Str} {D : WEnds} {τ : VF.ST} {n : Int} {d : VF.DV} {z : Addr} {ns : List Str} {ds : List VF.DV} (h : τ[i]? = some (some (.self z c ns ds))) (a : AtOk K c f) (l : ns.length < 100) (k : Nx D (τ.set i (some (.self z c (pfN f ns) (pfD f d ns ds)))) n) :
    ∃ z c ns ds, τ[i]? = some (some (.self z c ns ds)) ∧ AtOk K c f ∧ ns.length < 100 ∧ D.nx (τ.set i (some (.self z c (pfN f ns) (pfD f d ns ds)))) n := ⟨z, c, ns, ds, h, a, l, k⟩
section
variable {P : Program} {w : World} {K : PySem.W.Frag} {mg : Str → Option Value} {base : Heap}
theorem mg_gcd (T : TT K mg) : mg "gcd" = some (.builtin "math.gcd") := T.gl _ _ (of_decide_eq_true (m_3 T))
def sPow : DSp := fun ds n Q _ => ∃ b e : Int, ds = [.int b, .int e] ∧ 1 ≤ b ∧ b ≤ 64 ∧ 0 ≤ e ∧ e ≤ 15 ∧ ∀ r, 1 ≤ r → r ≤ bnd 4 → Q (.int r) n
theorem sc_int_power : FnScope ["base", "exponent", "result"] ["base", "exponent"] (defScope s_int_power) := ⟨rfl, rfl, rfl, by decide +kernel, rfl, by decide +kernel, by decide +kernel⟩
theorem v_int_power (T : TT K mg) : FnOk P w K mg base (L2.CX P w) 1 (He.ga K "int_power") (fdOf K ("int_power", none)) ["base", "exponent"] (liftSp K (Cs K) sPow) := by
  refine v_ok (F_int_power T) sc_int_power (by decide) (by decide) ?_ (fun cdv A outer s H W ds n Q' hC hE hr h => ⟨_, (vss_cons (vs_set (ps_set (i := 2) sc_int_power.nd rfl (Or.inl rfl) (ve_int pe_int)))
  (vss_cons (vs_while (passes_of rfl) (vt_cmp op_gt d_IB (ve_var (pv 1)) (ve_int pe_int) (nomark _)) (vss_cons (vs_if (vt_cmp (op_eqU K hr.units) d_eq (ve_op op_mod d_I (ve_var (pv 1)) (ve_int pe_int)) (ve_int pe_int) (nomark _)) (vss_one (vs_set (ps_set (i := 2) sc_int_power.nd rfl (Or.inl rfl) (ve_op op_mulW d_I (ve_var (pv 2)) (ve_var (pv 0)))))) vss_nil)
  (vss_cons (vs_set (ps_set (i := 0) sc_int_power.nd rfl (Or.inl rfl) (ve_op op_mulW d_I (ve_var (pv 0)) (ve_var (pv 0)))))
  (vss_one (vs_set (ps_set (i := 1) sc_int_power.nd rfl (Or.inl rfl) (ve_op op_fdivW d_I (ve_var (pv 1)) (ve_int pe_int))))))))
  (vss_one (vs_ret (ps_ret (ve_var (pv 2))))))), ?_⟩)
  · rintro ds n Q E ⟨b, e, rfl, _⟩; rfl
  · obtain ⟨b, e, rfl, b0, b1, e0, e1, hq⟩ := h
    walk_at "vin"
    walk_at "vw"
    refine ⟨fun m τ n' => n' = n ∧ ∃ (b e r : Int) (k : Nat), τ = [some (.d (.int b)), some (.d (.int e)), some (.d (.int r))] ∧ m = e.toNat ∧ 0 ≤ e ∧ k ≤ 4 ∧ e * 2 ^ k ≤ 15 ∧ 1 ≤ b ∧ b ≤ bnd k ∧ 1 ≤ r ∧ r ≤ bnd k, ⟨_, rfl, b, e, 1, 0, rfl, rfl, e0, by decide, by simpa using e1, b0, by simpa [bnd] using b1, by decide, by decide⟩, ?_⟩
    rintro m τ n' ⟨rfl, b, e, r, k, rfl, rfl, e0, k4, ek, b0, b1, r0, r1⟩
    walk_at "vw"
    by_cases h : 0 < e
    · rw [decide_eq_true h]
      walk_at "vw"
      have k3 : k ≤ 3 := by
        refine Nat.le_of_lt_succ (Nat.lt_of_not_le fun hk => ?_)
        have : (16 : Int) ≤ 2 ^ k := by
          have := Nat.pow_le_pow_right (n := 2) (by decide) hk
          exact_mod_cast this
        have := Int.mul_le_mul_of_nonneg_right (show (1 : Int) ≤ e by omega) (show (0 : Int) ≤ 2 ^ k by omega)
        omega
      have hd : e / 2 * 2 ^ (k + 1) ≤ 15 := by
        have h1 : e / 2 * 2 ≤ e := by omega
        have h2 : (0 : Int) ≤ 2 ^ k := Int.le_of_lt (Int.pow_pos (by decide))
        have := Int.mul_le_mul_of_nonneg_right h1 h2
        rw [Int.pow_succ, Int.mul_comm (2 ^ k) 2, ← Int.mul_assoc]
        omega
      have lt : (e / 2).toNat < e.toNat := by omega
      have bb : 1 ≤ b * b ∧ b * b ≤ bnd (k + 1) := by
        rw [bnd_sq]
        exact ⟨Int.le_trans (by omega) (Int.mul_le_mul b0 b0 (by omega) (by omega)), Int.mul_le_mul b1 b1 (by omega) (by have := bnd_pos k; omega)⟩
      have rb : 1 ≤ r * b ∧ r * b ≤ bnd (k + 1) := by
        rw [bnd_sq]
        exact ⟨Int.le_trans (by omega) (Int.mul_le_mul r0 b0 (by omega) (by omega)), Int.mul_le_mul r1 b1 (by omega) (by have := bnd_pos k; omega)⟩
      have rk : r ≤ bnd (k + 1) := Int.le_trans r1 (bnd_le (by omega))
      by_cases h1 : e % 2 = 1
      · rw [decide_eq_true h1]
        walk_at "vw"
        refine VF.y_I (cmulB (by omega) r1 (by omega) (by omega) b1 (by omega)) ?_
        walk_at "vw"
        refine VF.y_I (cmulB (by omega) b1 (by omega) (by omega) b1 (by omega)) ?_
        walk_at "vw"
        exact ⟨_, lt, rfl, _, _, _, k + 1, rfl, rfl, by omega, by omega, hd, bb.1, bb.2, rb.1, rb.2⟩
      · rw [decide_eq_false h1]
        walk_at "vw"
        refine VF.y_I (cmulB (by omega) b1 (by omega) (by omega) b1 (by omega)) ?_
        walk_at "vw"
        exact ⟨_, lt, rfl, _, _, _, k + 1, rfl, rfl, by omega, by omega, hd, bb.1, bb.2, r0, rk⟩
    · rw [decide_eq_false h]
      walk_at "vw"
      exact hq r r0 (Int.le_trans r1 (bnd_le k4))
theorem y_pow {b e n : Int} {Q : VF.DV → Int → Prop} {E : XV} (h1 : 1 ≤ b) (h2 : b ≤ 64) (h3 : 0 ≤ e) (h4 : e ≤ 15) (q : ∀ r, 1 ≤ r → r ≤ bnd 4 → Q (.int r) n) : sPow ([.int b, .int e] ++ []) n Q E := ⟨b, e, rfl, h1, h2, h3, h4, q⟩
def sWhole : DSp := fun ds n Q _ => ∃ i : Int, ds = [.int i] ∧ Q (.bl true) n
theorem sc_is_whole : FnScope ["value"] ["value"] (defScope s_is_whole) := ⟨rfl, rfl, rfl, by decide +kernel, rfl, by decide +kernel, by decide +kernel⟩
theorem v_is_whole (T : TT K mg) : FnOk P w K mg base (L2.CX P w) 1 (He.ga K "is_whole") (fdOf K ("is_whole", none)) ["value"] (liftSp K (Cs K) sWhole) := by
  refine v_ok (F_is_whole T) sc_is_whole (by decide) (by decide) ?_ (fun cdv A outer s H W ds n Q' hC hE hr h => ⟨_, (vss_one (vs_ret (ps_ret (ve_and (ve_cb (pe_callB (call_isiK' K) (by rfl) (T.free "isinstance" rfl) boot_isinstance (va_cons (ve_var (pv 0)) (va_cons (ve_ty (pe_bltn (v := .ty "int") (by rfl) (T.free "int" rfl) boot_int rfl)) va_nil))) d_isi) (pe_one (ve_not (ve_cb (pe_callB (call_isiK' K) (by rfl) (T.free "isinstance" rfl) boot_isinstance (va_cons (ve_var (pv 0)) (va_cons (ve_ty (pe_bltn (v := .ty "bool") (by rfl) (T.free "bool" rfl) boot_bool rfl)) va_nil))) d_isi))))))), ?_⟩)
  · rintro ds n Q E ⟨i, rfl, _⟩; rfl
  · obtain ⟨i, rfl, hq⟩ := h
    walk_at "vin"
    walk_at "vw"
    exact hq
theorem y_whole {i n : Int} {Q : VF.DV → Int → Prop} {E : XV} (q : Q (.bl true) n) : sWhole ([.int i] ++ []) n Q E := ⟨i, rfl, q⟩
def sRat : ISp := fun ds n Q _ => ∃ a b : Int, ds = [.int a, .int b] ∧ 1 ≤ a ∧ 1 ≤ b ∧ a ≤ bnd 9 ∧ b ≤ bnd 9 ∧ ∀ ns es, Q ns es n
theorem sc_Ratio___init__ : FnScope ["self", "top", "bottom", "common"] ["self", "top", "bottom"] (defScope s_Ratio___init__) := ⟨rfl, rfl, rfl, by decide +kernel, rfl, by decide +kernel, by decide +kernel⟩
theorem v_Ratio (T : TT K mg) : FnOk P w K mg base (L2.CX P w) 2 (He.ma K (He.ga K "Ratio") "__init__") (fdOf K ("Ratio", some "__init__")) ["self", "top", "bottom"] (liftSpI K (Cs K) "Ratio" sRat) := by
  refine v_okI (F_Ratio___init__ T) sc_Ratio___init__ (by decide) (by decide) ?_ (fun cdv A outer s H W ds n Q' z hC hE hr h => ⟨_, (vss_cons (vs_if (PW.pt (vw_or (vt_not (vt_val (ve_call hC hE (pe_call (v_is_whole T) (hr.mono (by decide)) (by rfl) (T.glo "is_whole" rfl) (F_is_whole T).kp (B_is_whole T) .nil (passes_call (takes_of rfl rfl rfl rfl) (fun _ _ _ _ h => h)) (va_cons (ve_var (pv 1)) va_nil)) (fun _ _ _ => .nil)))) (vw_or1 (vt_cmp op_lt d_IB (ve_var (pv 1)) (ve_int pe_int) (nomark _))))) (vss_one vs_dead) vss_nil)
  (vss_cons (vs_if (PW.pt (vw_or (vt_not (vt_val (ve_call hC hE (pe_call (v_is_whole T) (hr.mono (by decide)) (by rfl) (T.glo "is_whole" rfl) (F_is_whole T).kp (B_is_whole T) .nil (passes_call (takes_of rfl rfl rfl rfl) (fun _ _ _ _ h => h)) (va_cons (ve_var (pv 2)) va_nil)) (fun _ _ _ => .nil)))) (vw_or1 (vt_cmp op_lt d_IB (ve_var (pv 2)) (ve_int pe_int) (nomark _))))) (vss_one vs_dead) vss_nil)
  (vss_cons (vs_set (ps_set (i := 3) sc_Ratio___init__.nd rfl (Or.inl rfl) (ve_cb (pe_callBfun cr_gcd (by rfl) (mg_gcd T) (va_cons (ve_var (pv 1)) (va_cons (ve_var (pv 2)) va_nil))) d_gcd)))
  (vss_cons (vs_setF (ps_fldE K (pv 0) (ve_op op_fdivW d_I (ve_var (pv 1)) (ve_var (pv 3)))))
  (vss_one (vs_setF (ps_fldE K (pv 0) (ve_op op_fdivW d_I (ve_var (pv 2)) (ve_var (pv 3)))))))))), ?_⟩)
  · rintro ds n Q E ⟨a, b, rfl, _⟩; rfl
  · obtain ⟨a, b, rfl, a0, b0, a1, b1, hq⟩ := h
    have aT : AtOk K "Ratio" "top" := ⟨T.cls "Ratio" rfl, T.noat "Ratio" "top" rfl⟩
    have aB : AtOk K "Ratio" "bottom" := ⟨T.cls "Ratio" rfl, T.noat "Ratio" "bottom" rfl⟩
    unfold startI
    walk_at "vin"
    walk_at "vw"
    refine y_whole ?_
    walk_at "vw"
    rw [decide_eq_false (show ¬ a < 0 by omega)]
    walk_at "vw"
    refine y_whole ?_
    walk_at "vw"
    rw [decide_eq_false (show ¬ b < 1 by omega)]
    walk_at "vw"
    have g0 : 0 < Nat.gcd a.natAbs b.natAbs := Nat.gcd_pos_of_pos_right _ (by omega)
    have gl : ((Nat.gcd a.natAbs b.natAbs : Nat) : Int) ≤ bnd 9 := by
      have := Nat.le_of_dvd (show 0 < b.natAbs by omega) (Nat.gcd_dvd_right a.natAbs b.natAbs)
      omega
    obtain ⟨g, hg⟩ : ∃ g, Nat.gcd a.natAbs b.natAbs = g := ⟨_, rfl⟩
    rw [hg] at g0 gl
    refine y_gcd hg ?_
    walk_at "vw"
    refine y_setF ?_
    walk_at "vw"
    refine VF.y_I (cdivB (by omega) a1 (by omega) (by omega) gl (by omega)) ?_
    refine y_setF2 rfl aT (by decide) ?_
    walk_at "vw"
    dsimp only
    refine y_setF ?_
    walk_at "vw"
    refine VF.y_I (cdivB (by omega) b1 (by omega) (by omega) gl (by omega)) ?_
    refine y_setF2 rfl aB (by decide) ?_
    walk_at "vw"
    dsimp only
    exact ⟨_, _, rfl, hq _ _⟩
def sCr : DSp := fun ds n Q _ => ∃ a b : Int, ds = [.int a, .int b] ∧ 1 ≤ a ∧ 1 ≤ b ∧ a ≤ bnd 9 ∧ b ≤ bnd 9 ∧ ∀ ns es, Q (.ins "Ratio" ns es) n
theorem v_Ratio___init__ (T : TT K mg) : FnOk P w K mg base (L2.CX P w) 2 (He.ma K (He.ga K "Ratio") "__init__") (fdOf K ("Ratio", some "__init__")) ["self", "top", "bottom"] (liftSpI K (Cs K) "Ratio" sRat) := v_Ratio T
theorem B_init2 (T : TT K mg) : ∃ ds, Vals ([] : List V) ds ∧ Binds K (fdOf K ("Ratio", some "__init__")) ["self", "top", "bottom"] ds :=
  (F_Ratio___init__ T).binds1 3 1 (by simp [He.DefD.dvs, d_Ratio___init__]) rfl fun _ _ _ _ _ _ _ us its h1 h2 => match us, its, h1, h2 with | [_, _, _], [_], _, _ => ⟨_, rfl, rfl⟩
theorem sc_count_ratio : FnScope ["part", "whole"] ["part", "whole"] (defScope s_count_ratio) := ⟨rfl, rfl, rfl, by decide +kernel, rfl, by decide +kernel, by decide +kernel⟩
theorem v_count_ratio (T : TT K mg) : FnOk P w K mg base (L2.CX P w) 4 (He.ga K "count_ratio") (fdOf K ("count_ratio", none)) ["part", "whole"] (liftSp K (Cs K) sCr) := by
  obtain ⟨ds2, v2, b2⟩ := B_init2 T
  refine v_ok (F_count_ratio T) sc_count_ratio (by decide) (by decide) ?_ (fun cdv A outer s H W ds n Q' hC hE hr h => ⟨_, (vss_one (vs_ret (ps_ret (ve_make (cl := "Ratio") hC hE (pe_makeE (T.mkr "Ratio" rfl) (v_Ratio___init__ T) (hr.mono (by decide)) (by rfl) (T.glo "Ratio" rfl) b2 v2 (passes_call (takes_of rfl rfl rfl rfl) (fun _ _ _ _ h => h)) (va_cons (ve_var (pv 0)) (va_cons (ve_var (pv 1)) va_nil))) (fun _ _ _ => .nil))))), ?_⟩)
  · rintro ds n Q E ⟨a, b, rfl, _⟩; rfl
  · obtain ⟨a, b, rfl, a0, b0, a1, b1, hq⟩ := h
    walk_at "vin"
    walk_at "vw"
    refine VF.y_make ?_
    walk_at "vw"
    exact ⟨a, b, rfl, a0, b0, a1, b1, fun ns es => hq ns es⟩
theorem y_cr {a b n : Int} {Q : VF.DV → Int → Prop} {E : XV} (h1 : 1 ≤ a) (h2 : 1 ≤ b) (h3 : a ≤ bnd 9) (h4 : b ≤ bnd 9) (q : ∀ ns es, Q (.ins "Ratio" ns es) n) : sCr ([.int a, .int b] ++ []) n Q E := ⟨a, b, rfl, h1, h2, h3, h4, q⟩
end
end BF
/-! ## Spans and flows of programs, by data -/
namespace BF
open PySem PySem.Spec PyProof.Rows L2 VF
section
variable {P : Program} {w : World} {K : PySem.W.Frag} {mg : Str → Option Value} {base : Heap}
/-- deeds of a program -/
def DsOk (xs : List Int) (Ds : List Dd) : Prop := ∀ D ∈ Ds, DdOk xs D
def sTSpan : DSp := fun ds n Q _ => ∃ z xs Ds, ds = [z, .tup (Ds.map dD)] ∧ SqD z (VF.iD xs) ∧ DsOk xs Ds ∧ ∀ a b : Int, Q (.tup [.int a, .int b]) n
theorem sc__total_span : FnScope ["sizes", "deeds", "low", "high", "deed", "below", "above"] ["sizes", "deeds"] (defScope s__total_span) := ⟨rfl, rfl, rfl, by decide +kernel, rfl, by decide +kernel, by decide +kernel⟩
theorem v__total_span (T : TT K mg) : FnOk P w K mg base (L2.CX P w) 2 (He.ga K "_total_span") (fdOf K ("_total_span", none)) ["sizes", "deeds"] (liftSp K (Cs K) sTSpan) := by
  refine v_ok (F__total_span T) sc__total_span (by decide) (by decide) ?_ (fun cdv A outer s H W ds n Q' hC hE hr h => ⟨_, (vss_cons (vs_set (ps_set (i := 2) sc__total_span.nd rfl (Or.inl rfl) (ve_int pe_int)))
  (vss_cons (vs_set (ps_set (i := 3) sc__total_span.nd rfl (Or.inl rfl) (ve_int pe_int)))
  (vss_cons (vs_for (passes_of rfl) rfl (vi_tup rfl (ve_var (pv 1))) (vg_name (pg_name (i := 4) sc__total_span.nd rfl (Or.inl rfl))) (vss_cons (vs_asg (ps_asg (ve_call hC hE (pe_call (v_deed_span T) (hr.mono (by decide)) (by rfl) (T.glo "deed_span" rfl) (F_deed_span T).kp (B_deed_span T) .nil (passes_call (takes_of rfl rfl rfl rfl) (fun _ _ _ _ h => h)) (va_cons (ve_var (pv 0)) (va_cons (ve_var (pv 4)) va_nil))) (fun _ _ _ => .nil)) (vg_tup (m := 2) rfl rfl (vgs_cons (vg_name (pg_name (i := 5) sc__total_span.nd rfl (Or.inl rfl))) (vgs_cons (vg_name (pg_name (i := 6) sc__total_span.nd rfl (Or.inl rfl))) vgs_nil)))))
  (vss_cons (vs_set (ps_set (i := 2) sc__total_span.nd rfl (Or.inl rfl) (ve_op (op_addD K) d_add (ve_var (pv 2)) (ve_var (pv 5)))))
  (vss_one (vs_set (ps_set (i := 3) sc__total_span.nd rfl (Or.inl rfl) (ve_op (op_addD K) d_add (ve_var (pv 3)) (ve_var (pv 6)))))))))
  (vss_one (vs_ret (ps_ret (ve_tup (va_cons (ve_var (pv 2)) (va_cons (ve_var (pv 3)) va_nil))))))))), ?_⟩)
  · rintro ds n Q E ⟨z, xs, Ds, rfl, _⟩; rfl
  · obtain ⟨z, xs, Ds, rfl, hz, ok, hq⟩ := h
    walk_at "vin"
    walk_at "vw"
    refine VF.y_loop (fun i τ n' => n' = n ∧ ∃ (a b : Int) (o1 o2 o3 : Option SV), τ = [some (.d z), some (.d (.tup (Ds.map dD))), some (.d (.int a)), some (.d (.int b)), o1, o2, o3]) ⟨rfl, 0, 0, none, none, none, rfl⟩ ?_ ?_
    · rintro i d τ n' hi ⟨rfl, a, b, o1, o2, o3, rfl⟩
      rw [List.getElem?_map] at hi
      obtain ⟨D, hD, rfl⟩ := Option.map_eq_some_iff.mp hi
      walk_at "vw"
      refine y_span hz (ok D (List.mem_of_getElem? hD)) ?_
      unfold spanD
      walk_at "vw"
      exact ⟨rfl, _, _, _, _, _, rfl⟩
    · rintro τ n' ⟨rfl, a, b, o1, o2, o3, rfl⟩
      walk_at "vw"
      exact hq a b
theorem y_tspan {z : VF.DV} {xs : List Int} {Ds : List Dd} {n : Int} {Q : VF.DV → Int → Prop} {E : XV} (hz : SqD z (VF.iD xs)) (h : DsOk xs Ds) (q : ∀ a b : Int, Q (.tup [.int a, .int b]) n) : sTSpan ([z, .tup (Ds.map dD)] ++ []) n Q E := ⟨z, xs, Ds, rfl, hz, h, q⟩
def sTFlow : DSp := fun ds n Q _ => ∃ z xs Ds, ds = [z, .tup (Ds.map dD)] ∧ SqD z (VF.iD xs) ∧ SzOk xs ∧ DsOk xs Ds ∧ Ds.length ≤ 12 ∧ ∀ ns es, Q (.ins "Ratio" ns es) n
theorem bnd4 (i : Nat) (h : i ≤ 12) : bnd 4 ^ i ≤ bnd 9 := by
  have e : bnd 4 ^ i = 64 ^ (16 * i) := by
    unfold bnd
    rw [← Int.pow_mul]
  rw [e]
  unfold bnd
  have := Nat.pow_le_pow_right (n := 64) (by decide) (show 16 * i ≤ 2 ^ 9 by omega)
  exact_mod_cast this
theorem bnd4_step {i : Nat} {a r : Int} (a0 : 1 ≤ a) (a1 : a ≤ bnd 4 ^ i) (r0 : 1 ≤ r) (r1 : r ≤ bnd 4) : 1 ≤ a * r ∧ a * r ≤ bnd 4 ^ (i + 1) := by
  rw [Int.pow_succ]
  refine ⟨Int.le_trans (by omega) (Int.mul_le_mul a0 r0 (by omega) (by omega)), Int.mul_le_mul a1 r1 (by omega) ?_⟩
  exact Int.le_trans (by omega) a1
theorem bnd4_mono {i : Nat} {a : Int} (a1 : a ≤ bnd 4 ^ i) : a ≤ bnd 4 ^ (i + 1) := by
  rw [Int.pow_succ]
  have h := bnd_pos 4
  have h0 : (0 : Int) ≤ bnd 4 ^ i := Int.le_of_lt (Int.pow_pos (by omega))
  have := Int.mul_le_mul_of_nonneg_left h h0
  omega
theorem sc__total_flow : FnScope ["sizes", "deeds", "top", "bottom", "deed"] ["sizes", "deeds"] (defScope s__total_flow) := ⟨rfl, rfl, rfl, by decide +kernel, rfl, by decide +kernel, by decide +kernel⟩
theorem v__total_flow (T : TT K mg) : FnOk P w K mg base (L2.CX P w) 5 (He.ga K "_total_flow") (fdOf K ("_total_flow", none)) ["sizes", "deeds"] (liftSp K (Cs K) sTFlow) := by
  refine v_ok (F__total_flow T) sc__total_flow (by decide) (by decide) ?_ (fun cdv A outer s H W ds n Q' hC hE hr h => ⟨_, (vss_cons (vs_set (ps_set (i := 2) sc__total_flow.nd rfl (Or.inl rfl) (ve_int pe_int)))
  (vss_cons (vs_set (ps_set (i := 3) sc__total_flow.nd rfl (Or.inl rfl) (ve_int pe_int)))
  (vss_cons (vs_for (passes_of rfl) rfl (vi_tup rfl (ve_var (pv 1))) (vg_name (pg_name (i := 4) sc__total_flow.nd rfl (Or.inl rfl))) (vss_one (vs_if (PW.pt (vw_and (vt_cmp (op_eqU K hr.units) d_eq (ve_ix (ix_LTK K) d_ix (ve_var (pv 4)) (ve_int pe_int) (fun _ _ => rfl)) (ve_str pe_str) (nomark _)) (vw_and1 (vt_cmp op_gt d_IB (ve_ix (ix_LTK K) d_ix (ve_var (pv 4)) (ve_int pe_int) (fun _ _ => rfl)) (ve_int pe_int) (nomark _))))) (vss_one (vs_set (ps_set (i := 2) sc__total_flow.nd rfl (Or.inl rfl) (ve_op op_mulW d_I (ve_var (pv 2)) (ve_call hC hE (pe_call (v_int_power T) (hr.mono (by decide)) (by rfl) (T.glo "int_power" rfl) (F_int_power T).kp (B_int_power T) .nil (passes_call (takes_of rfl rfl rfl rfl) (fun _ _ _ _ h => h)) (va_cons (ve_ix (ix_LTK K) d_ix (ve_var (pv 0)) (ve_ix (ix_LTK K) d_ix (ve_var (pv 4)) (ve_int pe_int) (fun _ _ => rfl)) (fun _ _ => rfl)) (va_cons (ve_ix (ix_LTK K) d_ix (ve_var (pv 4)) (ve_int pe_int) (fun _ _ => rfl)) va_nil))) (fun _ _ _ => .nil)))))) (vss_one (vs_if (vt_cmp (op_eqU K hr.units) d_eq (ve_ix (ix_LTK K) d_ix (ve_var (pv 4)) (ve_int pe_int) (fun _ _ => rfl)) (ve_str pe_str) (nomark _)) (vss_one (vs_set (ps_set (i := 3) sc__total_flow.nd rfl (Or.inl rfl) (ve_op op_mulW d_I (ve_var (pv 3)) (ve_call hC hE (pe_call (v_int_power T) (hr.mono (by decide)) (by rfl) (T.glo "int_power" rfl) (F_int_power T).kp (B_int_power T) .nil (passes_call (takes_of rfl rfl rfl rfl) (fun _ _ _ _ h => h)) (va_cons (ve_ix (ix_LTK K) d_ix (ve_var (pv 0)) (ve_ix (ix_LTK K) d_ix (ve_var (pv 4)) (ve_int pe_int) (fun _ _ => rfl)) (fun _ _ => rfl)) (va_cons (ve_un un_neg d_neg (ve_ix (ix_LTK K) d_ix (ve_var (pv 4)) (ve_int pe_int) (fun _ _ => rfl))) va_nil))) (fun _ _ _ => .nil)))))) vss_nil)))))
  (vss_one (vs_ret (ps_ret (ve_call hC hE (pe_call (v_count_ratio T) (hr.mono (by decide)) (by rfl) (T.glo "count_ratio" rfl) (F_count_ratio T).kp (B_count_ratio T) .nil (passes_call (takes_of rfl rfl rfl rfl) (fun _ _ _ _ h => h)) (va_cons (ve_var (pv 2)) (va_cons (ve_var (pv 3)) va_nil))) (fun _ _ _ => .nil)))))))), ?_⟩)
  · rintro ds n Q E ⟨z, xs, Ds, rfl, _⟩; rfl
  · obtain ⟨z, xs, Ds, rfl, hz, hs, ok, hl, hq⟩ := h
    walk_at "vin"
    walk_at "vw"
    refine VF.y_loop (fun i τ n' => n' = n ∧ i ≤ Ds.length ∧ ∃ (a b : Int) (o1 : Option SV), τ = [some (.d z), some (.d (.tup (Ds.map dD))), some (.d (.int a)), some (.d (.int b)), o1] ∧ 1 ≤ a ∧ a ≤ bnd 4 ^ i ∧ 1 ≤ b ∧ b ≤ bnd 4 ^ i) ⟨rfl, Nat.zero_le _, 1, 1, none, rfl, by decide, by simp, by decide, by simp⟩ ?_ ?_
    · rintro i d τ n' hi ⟨rfl, il, a, b, o1, rfl, a0, a1, b0, b1⟩
      rw [List.getElem?_map] at hi
      obtain ⟨D, hD, rfl⟩ := Option.map_eq_some_iff.mp hi
      have hi2 : i < Ds.length := (List.getElem?_eq_some_iff.mp hD).1
      have okD := ok D (List.mem_of_getElem? hD)
      have ua : a ≤ bnd 9 := Int.le_trans a1 (bnd4 i (by omega))
      have ub : b ≤ bnd 9 := Int.le_trans b1 (bnd4 i (by omega))
      cases D with
      | sw ns =>
        unfold dD
        walk_at "vw"
        exact ⟨rfl, by omega, a, b, _, rfl, a0, bnd4_mono a1, b0, bnd4_mono b1⟩
      | ad t rs tab =>
        unfold dD
        walk_at "vw"
        exact ⟨rfl, by omega, a, b, _, rfl, a0, bnd4_mono a1, b0, bnd4_mono b1⟩
      | mv t x =>
        obtain ⟨t0, t1, x0, x1⟩ := okD
        obtain ⟨p1, p2⟩ := at_ok hs t0 t1
        unfold dD
        walk_at "vw"
        by_cases h : 0 < x
        · rw [decide_eq_true h]
          walk_at "vw"
          refine y_ixS (sq_of hz) (atI_iD t0 t1) ?_
          walk_at "vw"
          refine y_pow p1 p2 (by omega) (by omega) fun r r0 r1 => ?_
          obtain ⟨s0, s1⟩ := bnd4_step a0 a1 r0 r1
          walk_at "vw"
          refine VF.y_I (cmulB (k := 9) (l := 4) (by omega) ua (by omega) (by omega) r1 (by omega)) ?_
          walk_at "vw"
          exact ⟨rfl, by omega, _, b, _, rfl, s0, s1, b0, bnd4_mono b1⟩
        · rw [decide_eq_false h]
          walk_at "vw"
          refine y_ixS (sq_of hz) (atI_iD t0 t1) ?_
          walk_at "vw"
          refine y_pow p1 p2 (by omega) (by omega) fun r r0 r1 => ?_
          obtain ⟨s0, s1⟩ := bnd4_step b0 b1 r0 r1
          walk_at "vw"
          refine VF.y_I (cmulB (k := 9) (l := 4) (by omega) ub (by omega) (by omega) r1 (by omega)) ?_
          walk_at "vw"
          exact ⟨rfl, by omega, a, _, _, rfl, a0, bnd4_mono a1, s0, s1⟩
    · rintro τ n' ⟨rfl, il, a, b, o1, rfl, a0, a1, b0, b1⟩
      rw [List.length_map] at a1 b1
      walk_at "vw"
      exact y_cr a0 b0 (Int.le_trans a1 (bnd4 _ hl)) (Int.le_trans b1 (bnd4 _ hl)) hq
theorem y_tflow {z : VF.DV} {xs : List Int} {Ds : List Dd} {n : Int} {Q : VF.DV → Int → Prop} {E : XV} (hz : SqD z (VF.iD xs)) (hs : SzOk xs) (h : DsOk xs Ds) (hl : Ds.length ≤ 12) (q : ∀ ns es, Q (.ins "Ratio" ns es) n) : sTFlow ([z, .tup (Ds.map dD)] ++ []) n Q E := ⟨z, xs, Ds, rfl, hz, hs, h, hl, q⟩
end
end BF
/-! ## The errors; programs made, by data -/
namespace VF
open PySem PySem.Spec PyProof.Rows L2
theorem vs_raise0 {K : PySem.W.Frag} {W : Wc} {X : Cx} {st : Stmt} {cl : Str} {ns : List Str} {es : List DV} {fs : List (Str × V)} (hE : ELink K W)
    (h : PS X st (fun _ σ H => (fun (_ : L2.St) H Q => BF.RaisedX (He.ga K cl) fs H Q) σ H fun cls d H' => W.E cls d H'))
    (hf : ∀ b M H, ∃ ws, fs = ns.zip ws ∧ ns.length = ws.length ∧ DatL K b M H ws es) : PS X st (liftS K W (fun _ _ n => W.E' cl ns es n)) := BF.PS.imp' h fun D σ H ⟨Γ, O, τ, n, D', q, hw, l⟩ => by
  intro d H' hn ex hd
  obtain ⟨ws, e1, e2, e3⟩ := hf W.b (ad O ++ W.M0) H
  have q2 := q.ex ex
  exact hE cl ns ws es d H' n q2.ext (fun x hx => q2.al x (sub_M0 x hx)) q2.bag q2.tab (by rw [hd, e1]) e2 (DatL.sub sub_M0 (DatL.ey (Ey.ex0 ex) e3)) hw
end VF
namespace BF
open PySem PySem.Spec PyProof.Rows L2 VF
def fsS : List V → List (Str × V)
  | [] => [("code", .str "InvalidSizes")]
  | _ => []
def fsD : List V → List (Str × V)
  | [p] => [("code", .str "InvalidDeed"), ("at", p)]
  | _ => []
def fsT : List V → List (Str × V)
  | [p, q] => [("code", .str "TooMany"), ("count", q), ("what", p)]
  | _ => []
def nsS : List Str := ["code"]
def nsD : List Str := ["code", "at"]
def nsT : List Str := ["code", "count", "what"]
def gdS : List VF.DV := [.str "InvalidSizes"]
def gdD : List VF.DV → List VF.DV
  | [p] => [.str "InvalidDeed", p]
  | _ => []
def gdT : List VF.DV → List VF.DV
  | [p, q] => [.str "TooMany", q, p]
  | _ => []
section
variable {P : Program} {w : World} {K : PySem.W.Frag} {mg : Str → Option Value} {base : Heap}
theorem xInvalidSizes (T : TT K mg) : ExcOk K "InvalidSizes" := (ExcD.to (m_0 T)).1
theorem xInvalidDeed (T : TT K mg) : ExcOk K "InvalidDeed" := (ExcD.to (m_1 T)).1
theorem xTooMany (T : TT K mg) : ExcOk K "TooMany" := (ExcD.to (m_2 T)).1
theorem raise_S : ∀ (b : Addr) (M : List Addr) (H : Hp), ∃ ws, fsS [] = nsS.zip ws ∧ nsS.length = ws.length ∧ VF.DatL K b M H ws gdS := fun b M H => ⟨[.str "InvalidSizes"], rfl, rfl, .cons (.str _) .nil⟩
theorem raise_D : ∀ (b : Addr) (M : List Addr) (H : Hp) (vs : List V) (ds : List VF.DV), VF.DatL K b M H vs ds → vs.length = 1 → ∃ ws, fsD vs = nsD.zip ws ∧ nsD.length = ws.length ∧ VF.DatL K b M H ws (gdD ds) := fun b M H vs ds h hl => by
  cases h with
  | nil => cases hl
  | cons d1 h =>
    cases h with
    | nil => exact ⟨[.str "InvalidDeed", _], rfl, rfl, .cons (.str _) (.cons d1 .nil)⟩
    | cons _ _ => cases hl
theorem raise_T : ∀ (b : Addr) (M : List Addr) (H : Hp) (vs : List V) (ds : List VF.DV), VF.DatL K b M H vs ds → vs.length = 2 → ∃ ws, fsT vs = nsT.zip ws ∧ nsT.length = ws.length ∧ VF.DatL K b M H ws (gdT ds) := fun b M H vs ds h hl => by
  cases h with
  | nil => cases hl
  | cons d1 h =>
    cases h with
    | nil => cases hl
    | cons d2 h =>
      cases h with
      | nil => exact ⟨[.str "TooMany", _, _], rfl, rfl, .cons (.str _) (.cons d2 (.cons d1 .nil))⟩
      | cons _ _ => cases hl
theorem sc_InvalidSizes___init__ : FnScope ["self"] ["self"] (defScope s_InvalidSizes___init__) := ⟨rfl, rfl, rfl, by decide +kernel, rfl, by decide +kernel, by decide +kernel⟩
theorem ok_InvalidSizes___init__ (T : TT K mg) : FnOk P w K mg base CX0 1 (He.ma K (He.ga K "InvalidSizes") "__init__") (fdOf K ("InvalidSizes", some "__init__")) ["self"] (spEx (He.ga K "InvalidSizes") 0 fsS) := by
  refine (F_InvalidSizes___init__ T).ok sc_InvalidSizes___init__ (fun vs H Q E h => ?_) (fun cdv A outer s H vs Q E hr h => ⟨_, PSs.nox ((pss_one (ps_ostE K (pv 0) pe_str))), ?_⟩)
  · obtain ⟨a, ws, rfl, hw, _⟩ := h
    rw [List.length_cons, hw]
    rfl
  · obtain ⟨a, ws, rfl, hw, ha, hQ⟩ := h
    match ws, hw with
    | [], _ =>
      have hX := (xInvalidSizes T).oex
      have n3 := (ExcD.to (m_0 T)).2 "code" (by decide)
      walk_at "in"
      walk_at "gg"
      rename_i d H1 hd ne e1 ha1 hd1
      exact hQ d H1 hd ne e1 ha1 hd1
theorem sc_InvalidDeed___init__ : FnScope ["self", "at"] ["self", "at"] (defScope s_InvalidDeed___init__) := ⟨rfl, rfl, rfl, by decide +kernel, rfl, by decide +kernel, by decide +kernel⟩
theorem ok_InvalidDeed___init__ (T : TT K mg) : FnOk P w K mg base CX0 1 (He.ma K (He.ga K "InvalidDeed") "__init__") (fdOf K ("InvalidDeed", some "__init__")) ["self", "at"] (spEx (He.ga K "InvalidDeed") 1 fsD) := by
  refine (F_InvalidDeed___init__ T).ok sc_InvalidDeed___init__ (fun vs H Q E h => ?_) (fun cdv A outer s H vs Q E hr h => ⟨_, PSs.nox ((pss_cons (ps_ostE K (pv 0) (pv 1))
  (pss_one (ps_ostE K (pv 0) pe_str)))), ?_⟩)
  · obtain ⟨a, ws, rfl, hw, _⟩ := h
    rw [List.length_cons, hw]
    rfl
  · obtain ⟨a, ws, rfl, hw, ha, hQ⟩ := h
    match ws, hw with
    | [p], _ =>
      have hX := (xInvalidDeed T).oex
      have n1 := (ExcD.to (m_1 T)).2 "at" (by decide)
      have n3 := (ExcD.to (m_1 T)).2 "code" (by decide)
      walk_at "in"
      walk_at "gg"
      rename_i d H1 hd ne e1 ha1 hd1 H2 e2 ha2 hd2
      exact hQ d H2 hd ne (Ex.skip e1 hd e2) ha2 hd2
theorem sc_TooMany___init__ : FnScope ["self", "what", "count"] ["self", "what", "count"] (defScope s_TooMany___init__) := ⟨rfl, rfl, rfl, by decide +kernel, rfl, by decide +kernel, by decide +kernel⟩
theorem ok_TooMany___init__ (T : TT K mg) : FnOk P w K mg base CX0 1 (He.ma K (He.ga K "TooMany") "__init__") (fdOf K ("TooMany", some "__init__")) ["self", "what", "count"] (spEx (He.ga K "TooMany") 2 fsT) := by
  refine (F_TooMany___init__ T).ok sc_TooMany___init__ (fun vs H Q E h => ?_) (fun cdv A outer s H vs Q E hr h => ⟨_, PSs.nox ((pss_cons (ps_ostE K (pv 0) (pv 1))
  (pss_cons (ps_ostE K (pv 0) (pv 2))
  (pss_one (ps_ostE K (pv 0) pe_str))))), ?_⟩)
  · obtain ⟨a, ws, rfl, hw, _⟩ := h
    rw [List.length_cons, hw]
    rfl
  · obtain ⟨a, ws, rfl, hw, ha, hQ⟩ := h
    match ws, hw with
    | [p, q], _ =>
      have hX := (xTooMany T).oex
      have n1 := (ExcD.to (m_2 T)).2 "what" (by decide)
      have n2 := (ExcD.to (m_2 T)).2 "count" (by decide)
      have n3 := (ExcD.to (m_2 T)).2 "code" (by decide)
      walk_at "in"
      walk_at "gg"
      rename_i d H1 hd ne e1 ha1 hd1 H2 e2 ha2 hd2 H3 e3 ha3 hd3
      exact hQ d H3 hd ne (Ex.skip (Ex.skip e1 hd e2) hd e3) ha3 hd3
end
end BF
/-! ## Programs made, by data -/
namespace BF
open PySem PySem.Spec PyProof.Rows L2 VF
theorem sizes_to {d : VF.DV} (h : sizesB d = true) : ∃ xs, SqD d (VF.iD xs) ∧ SzOk xs ∧ 1 ≤ xs.length := by
  unfold sizesB at h
  cases e : seqOf d with
  | none => rw [e] at h; cases h
  | some ds =>
    rw [e] at h
    simp only [Bool.and_eq_true, decide_eq_true_eq] at h
    obtain ⟨⟨h1, h2⟩, h3⟩ := h
    have h4 : valsB (.tup ds) ds.length 65 = true ∨ True := .inr trivial
    have key : ∀ {es : List VF.DV}, es.all (numB · 1 64) = true → es = VF.iD (es.map intOf) ∧ ∀ x ∈ es.map intOf, 1 ≤ x ∧ x ≤ 64 := by
      intro es
      induction es with
      | nil => intro _; exact ⟨rfl, nofun⟩
      | cons u es ih =>
        intro h
        rw [List.all_cons, Bool.and_eq_true] at h
        obtain ⟨i, rfl, i0, i1⟩ := numB_int h.1
        obtain ⟨k1, k2⟩ := ih h.2
        refine ⟨by rw [List.map_cons, VF.iD, List.map_cons, ← VF.iD, ← k1]; rfl, fun x hx => ?_⟩
        rcases List.mem_cons.mp hx with e | hx
        · rw [e]; exact ⟨i0, i1⟩
        · exact k2 x hx
    obtain ⟨k1, k2⟩ := key h3
    refine ⟨ds.map intOf, ?_, ⟨k2, by rw [List.length_map]; exact h2⟩, by rw [List.length_map]; exact h1⟩
    cases d with
    | lst es => cases e; exact .inl (congrArg VF.DV.lst k1)
    | tup es => cases e; exact .inr (congrArg VF.DV.tup k1)
    | _ => cases e
theorem sizesB_of {d : VF.DV} {xs : List Int} (h : SqD d (VF.iD xs)) (hs : SzOk xs) (h1 : 1 ≤ xs.length) : sizesB d = true := by
  unfold sizesB
  rw [sq_of h]
  simp only [Bool.and_eq_true, decide_eq_true_eq, List.length_map]
  refine ⟨⟨h1, hs.2⟩, List.all_eq_true.mpr fun y hy => ?_⟩
  obtain ⟨x, hx, rfl⟩ := List.mem_map.mp hy
  simp [numB, hs.1 x hx]
def nsP : List Str := ["sizes", "signs", "span", "flow", "_deeds"]
/-- what Program(z, *rest) ends in -/
def ProgOut (z : VF.DV) (rest : List VF.DV) (n : Int) (Q : List Str → List VF.DV → Int → Prop) (E' : XV) : Prop :=
  (sizesB z = false → E' "InvalidSizes" nsS gdS n) ∧
  ∀ xs, SqD z (VF.iD xs) → SzOk xs → 1 ≤ xs.length → (64 < prod xs → E' "TooMany" nsT [.str "TooMany", .int (prod xs), .str "tracks"] n) ∧
    (prod xs ≤ 64 → ((∀ r ∈ rest, deedB xs r = true) → ∀ a b c, Q nsP [.tup (VF.iD xs), a, b, c, .tup rest] n) ∧
      ∀ (i : Nat) r, rest[i]? = some r → deedB xs r = false → (∀ r' ∈ rest.take i, deedB xs r' = true) → E' "InvalidDeed" nsD [.str "InvalidDeed", .int (i : Nat)] n)
theorem deeds_to {xs : List Int} : ∀ {rs : List VF.DV}, (∀ r ∈ rs, deedB xs r = true) → ∃ Ds, rs = Ds.map dD ∧ DsOk xs Ds
  | [], _ => ⟨[], rfl, nofun⟩
  | r :: rs, h => by
    obtain ⟨D, e, ok⟩ := deedB_to (h r List.mem_cons_self)
    obtain ⟨Ds, e2, ok2⟩ := deeds_to (rs := rs) fun x hx => h x (List.mem_cons_of_mem _ hx)
    exact ⟨D :: Ds, by rw [List.map_cons, e, e2], fun x hx => (List.mem_cons.mp hx).elim (fun q => q ▸ ok) (ok2 x)⟩
theorem y_tupS {d : VF.DV} {es : List VF.DV} {P : DP} (e : seqOf d = some es) (q : P (.tup es)) : wTuple [d] P := by
  cases d <;> cases e <;> exact q
section
variable {P : Program} {w : World} {K : PySem.W.Frag} {mg : Str → Option Value} {base : Heap}
def sProg : ISp := fun ds n Q E' => ∃ z rest, ds = [z, .tup rest] ∧ Pl 8 z ∧ rest.length ≤ 12 ∧ (∀ r ∈ rest, Pl 8 r) ∧ ProgOut z rest n Q E'
def LimT (K : PySem.W.Frag) (w : World) : Prop := ∃ es n, KDict K w (He.ga K "LIMITS") es n
theorem lim_tracks (T : TT K mg) (L : LimT K w) : KDct K w (He.ga K "LIMITS") "tracks" (.int 64) := kdct_of (v := .int 64) L (m_14 T) (by simp [tv_LIMITS])
theorem lim_deeds (T : TT K mg) (L : LimT K w) : KDct K w (He.ga K "LIMITS") "deeds" (.int 12) := kdct_of (v := .int 12) L (m_14 T) (by simp [tv_LIMITS])
theorem y_sizes {d : VF.DV} {n : Int} {Q : VF.DV → Int → Prop} {E : XV} (h : Pl 8 d) (q : Q (.bl (sizesB d)) n) : sSizes ([d] ++ []) n Q E := ⟨d, rfl, h, q⟩
theorem sc_Program___init__ : FnScope ["self", "sizes", "deeds", "signs", "at", "deed"] ["self", "sizes", "deeds"] (defScope s_Program___init__) := ⟨rfl, rfl, rfl, by decide +kernel, rfl, by decide +kernel, by decide +kernel⟩
theorem v_Program (T : TT K mg) (L : LimT K w) : FnR P w K mg base (L2.CX P w) 6 (He.ma K (He.ga K "Program") "__init__") (spStar K (Cs K) "Program" sProg) := by
  refine v_okIS (F_Program___init__ T) sc_Program___init__ (by decide) (by decide) ?_ ?_ (fun cdv A outer s H W ds n Q' zz hC hE hr h => ⟨_, (vss_cons (vs_if (vt_not (vt_val (ve_call hC hE (pe_call (v_is_sizes T) (hr.mono (by decide)) (by rfl) (T.glo "is_sizes" rfl) (F_is_sizes T).kp (B_is_sizes T) .nil (passes_call (takes_of rfl rfl rfl rfl) (fun _ _ _ _ h => h)) (va_cons (ve_var (pv 1)) va_nil)) (fun _ _ _ => .nil)))) (vss_one (vs_raise0 (ns := nsS) (es := gdS) hE (ps_raise rfl (takes_of rfl rfl rfl rfl) (pmk_ex0 (xInvalidSizes T).oex (xInvalidSizes T).ini (xInvalidSizes T).fun_ (ok_InvalidSizes___init__ T) (hr.mono (by decide)) (B_InvalidSizes___init__ T) pass0 (by rfl) (T.glo "InvalidSizes" rfl))) raise_S)) vss_nil)
  (vss_cons (vs_set (ps_set (i := 3) sc_Program___init__.nd rfl (Or.inl rfl) (ve_call hC hE (pe_call (v_sign_count T) (hr.mono (by decide)) (by rfl) (T.glo "sign_count" rfl) (F_sign_count T).kp (B_sign_count T) .nil (passes_call (takes_of rfl rfl rfl rfl) (fun _ _ _ _ h => h)) (va_cons (ve_var (pv 1)) va_nil)) (fun _ _ _ => .nil))))
  (vss_cons (vs_if (vt_cmp op_gt d_IB (ve_var (pv 3)) (ve_ix (ix_dctK K w) d_dct (ve_cls (pe_glob (v := .ref _) (by rfl) (T.glo "LIMITS" rfl) rfl)) (ve_str pe_str) (fun _ _ => rfl)) (nomark _)) (vss_one (vs_raise (ns := nsT) (gd := gdT) hE (ps_raise rfl (takes_of rfl rfl rfl rfl) (pmk_ex (by decide) (xTooMany T).oex (xTooMany T).ini (xTooMany T).fun_ (ok_TooMany___init__ T) (hr.mono (by decide)) (B_TooMany___init__ T) pass0 (by rfl) (T.glo "TooMany" rfl) (va_cons (ve_str pe_str) (va_cons (ve_var (pv 3)) va_nil)))) raise_T)) vss_nil)
  (vss_cons (vs_if (vt_cmp op_gt d_IB (ve_cb (pe_callB (call_lenK K) (by rfl) (T.free "len" rfl) boot_len (va_cons (ve_var (pv 2)) va_nil)) d_len) (ve_ix (ix_dctK K w) d_dct (ve_cls (pe_glob (v := .ref _) (by rfl) (T.glo "LIMITS" rfl) rfl)) (ve_str pe_str) (fun _ _ => rfl)) (nomark _)) (vss_one (vs_raise (ns := nsT) (gd := gdT) hE (ps_raise rfl (takes_of rfl rfl rfl rfl) (pmk_ex (by decide) (xTooMany T).oex (xTooMany T).ini (xTooMany T).fun_ (ok_TooMany___init__ T) (hr.mono (by decide)) (B_TooMany___init__ T) pass0 (by rfl) (T.glo "TooMany" rfl) (va_cons (ve_str pe_str) (va_cons (ve_cb (pe_callB (call_lenK K) (by rfl) (T.free "len" rfl) boot_len (va_cons (ve_var (pv 2)) va_nil)) d_len) va_nil)))) raise_T)) vss_nil)
  (vss_cons (vs_for (passes_of rfl) rfl (vi_enT (GA.pi_enT (by rfl) (T.free "enumerate" rfl) (va_cons (ve_var (pv 2)) va_nil))) (vg_tup (m := 2) rfl rfl (vgs_cons (vg_name (pg_name (i := 4) sc_Program___init__.nd rfl (Or.inl rfl))) (vgs_cons (vg_name (pg_name (i := 5) sc_Program___init__.nd rfl (Or.inl rfl))) vgs_nil))) (vss_one (vs_if (vt_not (vt_val (ve_call hC hE (pe_call (v_is_deed T) (hr.mono (by decide)) (by rfl) (T.glo "is_deed" rfl) (F_is_deed T).kp (B_is_deed T) .nil (passes_call (takes_of rfl rfl rfl rfl) (fun _ _ _ _ h => h)) (va_cons (ve_var (pv 1)) (va_cons (ve_var (pv 5)) va_nil))) (fun _ _ _ => .nil)))) (vss_one (vs_raise (ns := nsD) (gd := gdD) hE (ps_raise rfl (takes_of rfl rfl rfl rfl) (pmk_ex (by decide) (xInvalidDeed T).oex (xInvalidDeed T).ini (xInvalidDeed T).fun_ (ok_InvalidDeed___init__ T) (hr.mono (by decide)) (B_InvalidDeed___init__ T) pass0 (by rfl) (T.glo "InvalidDeed" rfl) (va_cons (ve_var (pv 4)) va_nil))) raise_D)) vss_nil)))
  (vss_cons (vs_setF (ps_fldE K (pv 0) (ve_cb (pe_callTy (call_tupLTK K) (by rfl) (T.free "tuple" rfl) boot_tuple (va_cons (ve_var (pv 1)) va_nil)) d_tuple)))
  (vss_cons (vs_setF (ps_fldE K (pv 0) (ve_var (pv 3))))
  (vss_cons (vs_setF (ps_fldE K (pv 0) (ve_call hC hE (pe_call (v__total_span T) (hr.mono (by decide)) (by rfl) (T.glo "_total_span" rfl) (F__total_span T).kp (B__total_span T) .nil (passes_call (takes_of rfl rfl rfl rfl) (fun _ _ _ _ h => h)) (va_cons (ve_var (pv 1)) (va_cons (ve_var (pv 2)) va_nil))) (fun _ _ _ => .nil))))
  (vss_cons (vs_setF (ps_fldE K (pv 0) (ve_call hC hE (pe_call (v__total_flow T) (hr.mono (by decide)) (by rfl) (T.glo "_total_flow" rfl) (F__total_flow T).kp (B__total_flow T) .nil (passes_call (takes_of rfl rfl rfl rfl) (fun _ _ _ _ h => h)) (va_cons (ve_var (pv 1)) (va_cons (ve_var (pv 2)) va_nil))) (fun _ _ _ => .nil))))
  (vss_one (vs_setF (ps_fldE K (pv 0) (ve_cb (pe_callTy (call_tupLTK K) (by rfl) (T.free "tuple" rfl) boot_tuple (va_cons (ve_var (pv 2)) va_nil)) d_tuple))))))))))))), ?_⟩)
  · rintro ds n Q E ⟨z, rest, rfl, _⟩; rfl
  · intro kV doc pm an cdv ct us rest hl
    match us, rest, hl with
    | [a, b], [], _ => rfl
    | [a, b], r :: rs, _ => rfl
  · obtain ⟨z, rest, rfl, pz, lr, pr, hq1, hq2⟩ := h
    unfold startI
    walk_at "vin"
    walk_at "vw"
    refine y_sizes pz ?_
    walk_at "vw"
    cases e : sizesB z with
    | false =>
      walk_at "vw"
      exact hq1 e
    | true =>
      obtain ⟨xs, hz, hs, hl⟩ := sizes_to e
      obtain ⟨hq3, hq4⟩ := hq2 xs hz hs hl
      walk_at "vw"
      refine y_count hz hs.1 hs.2 ?_
      walk_at "vw"
      refine y_dct (lim_tracks T L) ?_
      walk_at "vw"
      by_cases hp : 64 < prod xs
      · rw [decide_eq_true hp]
        walk_at "vw"
        exact ⟨rfl, hq3 hp⟩
      · rw [decide_eq_false hp]
        obtain ⟨hq5, hq6⟩ := hq4 (by omega)
        walk_at "vw"
        refine y_dct (lim_deeds T L) ?_
        walk_at "vw"
        rw [decide_eq_false (show ¬ (12 : Int) < (rest.length : Int) by omega)]
        walk_at "vw"
        refine ⟨rest, rfl, ?_⟩
        refine VF.y_loop (fun i τ n' => n' = n ∧ ∃ o1 o2, τ = [some (.self zz "Program" [] []), some (.d z), some (.d (.tup rest)), some (.d (.int (prod xs))), o1, o2] ∧ ∀ r ∈ rest.take i, deedB xs r = true) ⟨rfl, none, none, rfl, nofun⟩ ?_ ?_
        · rintro i d τ n' hi ⟨rfl, o1, o2, rfl, ha⟩
          obtain ⟨r, hr, rfl⟩ : ∃ r, rest[i]? = some r ∧ d = .tup [.int (i : Nat), r] := by
            have hl : i < rest.length := by
              have := (List.getElem?_eq_some_iff.mp hi).1
              rw [enumD_len] at this
              exact this
            refine ⟨rest[i], List.getElem?_eq_getElem hl, ?_⟩
            rw [enumD_at (List.getElem?_eq_getElem hl)] at hi
            exact (Option.some.inj hi).symm
          walk_at "vw"
          refine y_deed hz hs (by omega) (pr r (List.mem_of_getElem? hr)) ?_
          walk_at "vw"
          cases eb : deedB xs r with
          | false =>
            walk_at "vw"
            exact ⟨rfl, hq6 i r hr eb ha⟩
          | true =>
            walk_at "vw"
            refine ⟨rfl, _, _, rfl, fun r' hr' => ?_⟩
            rw [take_snoc hr] at hr'
            rcases List.mem_append.mp hr' with hr' | hr'
            · exact ha r' hr'
            · rw [List.mem_singleton.mp hr']; exact eb
        · rintro τ n' ⟨rfl, o1, o2, rfl, ha⟩
          rw [enumD_len, List.take_length] at ha
          obtain ⟨Ds, rfl, hD⟩ := deeds_to ha
          rw [List.length_map] at lr
          have a1 : AtOk K "Program" "sizes" := ⟨T.cls "Program" rfl, T.noat "Program" "sizes" rfl⟩
          have a2 : AtOk K "Program" "signs" := ⟨T.cls "Program" rfl, T.noat "Program" "signs" rfl⟩
          have a3 : AtOk K "Program" "span" := ⟨T.cls "Program" rfl, T.noat "Program" "span" rfl⟩
          have a4 : AtOk K "Program" "flow" := ⟨T.cls "Program" rfl, T.noat "Program" "flow" rfl⟩
          have a5 : AtOk K "Program" "_deeds" := ⟨T.cls "Program" rfl, T.noat "Program" "_deeds" rfl⟩
          walk_at "vw"
          dsimp only
          refine y_setF ?_
          walk_at "vw"
          refine y_tupS (sq_of hz) ?_
          refine y_setF2 rfl a1 (by decide) ?_
          walk_at "vw"
          dsimp only
          refine y_setF ?_
          walk_at "vw"
          refine y_setF2 rfl a2 (by decide +kernel) ?_
          walk_at "vw"
          dsimp only
          refine y_setF ?_
          walk_at "vw"
          refine y_tspan hz hD fun a b => ?_
          refine y_setF2 rfl a3 (by decide +kernel) ?_
          walk_at "vw"
          dsimp only
          refine y_setF ?_
          walk_at "vw"
          refine y_tflow hz hs hD lr fun ns es => ?_
          refine y_setF2 rfl a4 (by decide +kernel) ?_
          walk_at "vw"
          dsimp only
          refine y_setF ?_
          walk_at "vw"
          refine y_setF2 rfl a5 (by decide +kernel) ?_
          walk_at "vw"
          dsimp only
          exact ⟨_, _, rfl, hq5 ha _ _ _⟩
end
end BF
/-! ## Program.deeds; the law's plain defs, by data -/
namespace BF
open PySem PySem.Spec PyProof.Rows L2 VF
section
variable {P : Program} {w : World} {K : PySem.W.Frag} {mg : Str → Option Value} {base : Heap}
def sPDeeds : DSp := fun ds n Q _ => ∃ a b c d rest, ds = [.ins "Program" nsP [a, b, c, d, .tup rest]] ∧ Q (.lst rest) n
theorem sc_Program_deeds : FnScope ["self"] ["self"] (defScope s_Program_deeds) := ⟨rfl, rfl, rfl, by decide +kernel, rfl, by decide +kernel, by decide +kernel⟩
theorem v_Program_deeds (T : TT K mg) : FnOk P w K mg base (L2.CX P w) 1 (He.ma K (He.ga K "Program") "deeds") (fdOf K ("Program", some "deeds")) ["self"] (liftSp K (Cs K) sPDeeds) := by
  refine v_ok (F_Program_deeds T) sc_Program_deeds (by decide) (by decide) ?_ (fun cdv A outer s H W ds n Q' hC hE hr h => ⟨_, (vss_one (vs_ret (ps_ret (ve_cb (pe_callTy (call_listLTK K) (by rfl) (T.free "list" rfl) boot_list (va_cons (ve_fld (pe_fldK K (ve_var (pv 0)))) va_nil)) d_list)))), ?_⟩)
  · rintro ds n Q E ⟨a, b, c, d, rest, rfl, _⟩; rfl
  · obtain ⟨a, b, c, d, rest, rfl, hq⟩ := h
    have a5 : AtOk K "Program" "_deeds" := ⟨T.cls "Program" rfl, T.noat "Program" "_deeds" rfl⟩
    walk_at "vin"
    walk_at "vw"
    exact hq
theorem sc__law_product : FnScope ["_law_numbers", "_law_found", "_law_number"] ["_law_numbers"] (defScope s__law_product) := ⟨rfl, rfl, rfl, by decide +kernel, rfl, by decide +kernel, by decide +kernel⟩
theorem v__law_product (T : TT K mg) : FnOk P w K mg base (L2.CX P w) 1 (He.ga K "_law_product") (fdOf K ("_law_product", none)) ["_law_numbers"] (liftSp K (Cs K) sCount) := by
  refine v_ok (F__law_product T) sc__law_product (by decide) (by decide) ?_ (fun cdv A outer s H W ds n Q' hC hE hr h => ⟨_, (vss_cons (vs_set (ps_set (i := 1) sc__law_product.nd rfl (Or.inl rfl) (ve_int pe_int)))
  (vss_cons (vs_for (passes_of rfl) rfl (vi_seq rfl (ve_var (pv 0))) (vg_name (pg_name (i := 2) sc__law_product.nd rfl (Or.inl rfl))) (vss_one (vs_set (ps_set (i := 1) sc__law_product.nd rfl (Or.inl rfl) (ve_op op_mulW d_I (ve_var (pv 1)) (ve_var (pv 2)))))))
  (vss_one (vs_ret (ps_ret (ve_var (pv 1))))))), ?_⟩)
  · rintro ds n Q E ⟨d, xs, rfl, _⟩; rfl
  · obtain ⟨d, xs, rfl, hs, hx, hl, hq⟩ := h
    walk_at "vin"
    walk_at "vw"
    refine y_seqD (sq_of hs) ?_
    refine VF.y_loop (fun i τ n' => n' = n ∧ ∃ o, τ = [some (.d d), some (.d (.int (prod (xs.take i)))), o]) ⟨rfl, _, rfl⟩ ?_ ?_
    · rintro i x τ n' hi ⟨rfl, o, rfl⟩
      rw [List.getElem?_map] at hi
      obtain ⟨y, hy, rfl⟩ := Option.map_eq_some_iff.mp hi
      obtain ⟨b1, b2⟩ := hx y (List.mem_of_getElem? hy)
      obtain ⟨p1, p2⟩ := prod_small (xs := xs.take i) (fun z hz => hx z (List.mem_of_mem_take hz)) (by rw [List.length_take]; omega)
      walk_at "vw"
      exact ⟨rfl, _, by rw [prod_take hy]⟩
    · rintro τ n' ⟨rfl, o, rfl⟩
      rw [List.length_map, List.take_length]
      walk_at "vw"
      exact hq
theorem sc__law_whole : FnScope ["_law_thing", "_law_low", "_law_high"] ["_law_thing", "_law_low", "_law_high"] (defScope s__law_whole) := ⟨rfl, rfl, rfl, by decide +kernel, rfl, by decide +kernel, by decide +kernel⟩
theorem v__law_whole (T : TT K mg) : FnOk P w K mg base (L2.CX P w) 1 (He.ga K "_law_whole") (fdOf K ("_law_whole", none)) ["_law_thing", "_law_low", "_law_high"] (liftSp K (Cs K) sNum) := by
  refine v_ok (F__law_whole T) sc__law_whole (by decide) (by decide) ?_ (fun cdv A outer s H W ds n Q' hC hE hr h => ⟨_, (vss_one (vs_ret (ps_ret (ve_and (ve_cb (pe_callB (call_isiK' K) (by rfl) (T.free "isinstance" rfl) boot_isinstance (va_cons (ve_var (pv 0)) (va_cons (ve_ty (pe_bltn (v := .ty "int") (by rfl) (T.free "int" rfl) boot_int rfl)) va_nil))) d_isi) (ve_and (ve_not (ve_cb (pe_callB (call_isiK' K) (by rfl) (T.free "isinstance" rfl) boot_isinstance (va_cons (ve_var (pv 0)) (va_cons (ve_ty (pe_bltn (v := .ty "bool") (by rfl) (T.free "bool" rfl) boot_bool rfl)) va_nil))) d_isi)) (pe_one (ve_chain op_le op_le d_IB d_IB (ve_var (pv 1)) (ve_var (pv 0)) (ve_var (pv 2))))))))), ?_⟩)
  · rintro ds n Q E ⟨d, lo, hi, rfl, _⟩; rfl
  · obtain ⟨d, lo, hi, rfl, ⟨x, hx, _⟩, hq⟩ := h
    walk_at "vin"
    cases d with
    | int i =>
      walk_at "vw"
      by_cases h1 : lo ≤ i
      · simp only [h1, decide_true, if_true]
        walk_at "vw"
        simpa [numB, h1] using hq
      · simp only [h1, decide_false, if_false]
        walk_at "vw"
        simpa [numB, h1] using hq
    | non => walk_at "vw"; exact hq
    | bl b => walk_at "vw"; exact hq
    | str z => walk_at "vw"; exact hq
    | lst es => walk_at "vw"; exact hq
    | tup es => walk_at "vw"; exact hq
    | _ => cases hx
theorem sc__law_span : FnScope ["_law_sizes_here", "_law_deed_here", "_law_gap", "_law_gaps", "_law_pair"] ["_law_sizes_here", "_law_deed_here"] (defScope s__law_span) := ⟨rfl, rfl, rfl, by decide +kernel, rfl, by decide +kernel, by decide +kernel⟩
theorem v__law_span (T : TT K mg) : FnOk P w K mg base (L2.CX P w) 1 (He.ga K "_law_span") (fdOf K ("_law_span", none)) ["_law_sizes_here", "_law_deed_here"] (liftSp K (Cs K) sSpan) := by
  refine v_ok (F__law_span T) sc__law_span (by decide) (by decide) ?_ (fun cdv A outer s H W ds n Q' hC hE hr h => ⟨_, (vss_cons (vs_if (vt_cmp (op_eqU K hr.units) d_eq (ve_ix (ix_LTK K) d_ix (ve_var (pv 1)) (ve_int pe_int) (fun _ _ => rfl)) (ve_str pe_str) (nomark _)) (vss_one (vs_ret (ps_ret (ve_tup (va_cons (ve_int pe_int) (va_cons (ve_int pe_int) va_nil)))))) vss_nil)
  (vss_cons (vs_if (vt_cmp (op_eqU K hr.units) d_eq (ve_ix (ix_LTK K) d_ix (ve_var (pv 1)) (ve_int pe_int) (fun _ _ => rfl)) (ve_str pe_str) (nomark _)) (vss_cons (vs_set (ps_set (i := 2) sc__law_span.nd rfl (Or.inl rfl) (ve_op op_sub d_I0 (ve_int pe_int) (ve_ix (ix_LTK K) d_ix (ve_var (pv 1)) (ve_int pe_int) (fun _ _ => rfl)))))
  (vss_one (vs_ret (ps_ret (ve_if (vt_cmp (op_eqU K hr.units) d_eq (ve_cb (pe_callB (call_lenK K) (by rfl) (T.free "len" rfl) boot_len (va_cons (ve_var (pv 0)) va_nil)) d_len) (ve_int pe_int) (nomark _)) (ve_tup (va_cons (ve_var (pv 2)) (va_cons (ve_var (pv 2)) va_nil))) (ve_tup (va_cons (ve_cb (pe_callB (call_min2 rfl) (by rfl) (T.free "min" rfl) boot_min (va_cons (ve_int pe_int) (va_cons (ve_var (pv 2)) va_nil))) d_min2) (va_cons (ve_cb (pe_callB (call_max2 rfl) (by rfl) (T.free "max" rfl) boot_max (va_cons (ve_int pe_int) (va_cons (ve_var (pv 2)) va_nil))) d_max2) va_nil)))))))) vss_nil)
  (vss_cons (vs_set (ps_set (i := 3) sc__law_span.nd rfl (Or.inl rfl) (ve_op (op_addD K) d_add (ve_lst (va_cons (ve_int pe_int) va_nil)) (ve_ofO (vo_lc (pe_lc (own := [("_law_pair", 4)]) rfl sc__law_span.nd (vi_tup rfl (ve_ix (ix_LTK K) d_ix (ve_var (pv 1)) (ve_int pe_int) (fun _ _ => rfl))) (blkOk_by (N := ["_law_sizes_here", "_law_deed_here", "_law_gap", "_law_gaps", "_law_pair"]) (sc := defScope s__law_span) (by decide +kernel)) (fun _ _ _ _ _ => (vg_name (pg_name (i := 4) sc__law_span.nd rfl (Or.inl rfl)))) (fun _ _ _ _ _ => vts_nil) (fun _ _ _ _ _ => (ve_ix (ix_LTK K) d_ix (ve_var (pv 4)) (ve_int pe_int) (fun _ _ => rfl)))))))))
  (vss_one (vs_ret (ps_ret (ve_tup (va_cons (ve_cb (pe_callB (cr_minK' K) (by rfl) (T.free "min" rfl) boot_min (va_cons (ve_var (pv 3)) va_nil)) d_minL) (va_cons (ve_cb (pe_callB (cr_maxK K) (by rfl) (T.free "max" rfl) boot_max (va_cons (ve_var (pv 3)) va_nil)) d_maxL) va_nil))))))))), ?_⟩)
  · rintro ds n Q E ⟨z, xs, D, rfl, _⟩; rfl
  · obtain ⟨z, xs, D, rfl, hz, ok, hq⟩ := h
    cases D with
    | sw ns =>
      unfold dD
      walk_at "vin"
      walk_at "vw"
      exact hq
    | ad t rs tab =>
      unfold dD
      walk_at "vin"
      walk_at "vw"
      refine VF.y_lcA rs rD (fun r => .int r.2) rfl (by have := ok.2.2.1; omega) (fun j r acc R hj hacc hR => ?_) ?_
      · unfold rD
        walk_at "vw"
        exact hR
      · walk_at "vw"
        refine VF.y_addL (by have := ok.2.2.1; simp; omega) ?_
        walk_at "vw"
        have e : ([VF.DV.int 0] ++ rs.map fun r => VF.DV.int r.2) = VF.iD (gaps rs) := by simp [VF.iD, gaps]
        rw [e]
        walk_at "vw"
        refine y_minL (by simp [gaps]) ?_
        walk_at "vw"
        refine y_maxL (by simp [gaps]) ?_
        walk_at "vw"
        exact hq
    | mv t x =>
      unfold dD
      walk_at "vin"
      walk_at "vw"
      refine y_lenS (sq_of hz) ?_
      rw [List.length_map]
      walk_at "vw"
      by_cases h1 : (xs.length : Int) = 1
      · rw [decide_eq_true h1]
        walk_at "vw"
        simpa [spanD, spanL, spanH, h1] using hq
      · rw [decide_eq_false h1]
        walk_at "vw"
        simpa [spanD, spanL, spanH, h1] using hq
end
end BF
/-! ## The law's plain defs, further -/
namespace BF
open PySem PySem.Spec PyProof.Rows L2 VF
theorem asBl_map {α : Type} {p : α → Bool} : ∀ {ds : List α}, asBl (ds.map fun d => VF.DV.bl (p d)) = some (ds.map p)
  | [] => rfl
  | d :: ds => by
    rw [List.map_cons, List.map_cons]
    simp only [asBl]
    rw [asBl_map (ds := ds)]
    rfl
theorem all_map {α : Type} {p : α → Bool} {ds : List α} : (ds.map p).all id = ds.all p := by
  rw [List.all_map]
  rfl
theorem y_allM {α : Type} {p : α → Bool} {ds : List α} {P : DP} (q : P (.bl (ds.all p))) : wAll [.lst (ds.map fun d => VF.DV.bl (p d))] P := ⟨_, asBl_map, by rw [all_map]; exact q⟩
section
variable {P : Program} {w : World} {K : PySem.W.Frag} {mg : Str → Option Value} {base : Heap}
theorem sc__law_sizes_right : FnScope ["_law_thing", "_law_size"] ["_law_thing"] (defScope s__law_sizes_right) := ⟨rfl, rfl, rfl, by decide +kernel, rfl, by decide +kernel, by decide +kernel⟩
theorem v__law_sizes_right (T : TT K mg) : FnOk P w K mg base (L2.CX P w) 2 (He.ga K "_law_sizes_right") (fdOf K ("_law_sizes_right", none)) ["_law_thing"] (liftSp K (Cs K) sSizes) := by
  refine v_ok (F__law_sizes_right T) sc__law_sizes_right (by decide) (by decide) ?_ (fun cdv A outer s H W ds n Q' hC hE hr h => ⟨_, (vss_cons (vs_if (PW.pt (vw_or (vt_not (vt_val (ve_cb (pe_callB (call_isiS K) (by rfl) (T.free "isinstance" rfl) boot_isinstance (va_cons (ve_var (pv 0)) (va_cons (ve_tup (va_cons (ve_ty (pe_bltn (v := .ty "list") (by rfl) (T.free "list" rfl) boot_list rfl)) (va_cons (ve_ty (pe_bltn (v := .ty "tuple") (by rfl) (T.free "tuple" rfl) boot_tuple rfl)) va_nil))) va_nil))) d_isiT))) (vw_or (vt_cmp op_lt d_IB (ve_cb (pe_callB (call_lenK K) (by rfl) (T.free "len" rfl) boot_len (va_cons (ve_var (pv 0)) va_nil)) d_len) (ve_int pe_int) (nomark _)) (vw_or1 (vt_cmp op_gt d_IB (ve_cb (pe_callB (call_lenK K) (by rfl) (T.free "len" rfl) boot_len (va_cons (ve_var (pv 0)) va_nil)) d_len) (ve_int pe_int) (nomark _)))))) (vss_one (vs_ret (ps_ret (ve_bl pe_bl)))) vss_nil)
  (vss_one (vs_ret (ps_ret (ve_cb (pe_callB (cr_allK K) (by rfl) (T.free "all" rfl) boot_all (va_cons (ve_ofO (vo_lc (pe_lc (own := [("_law_size", 1)]) rfl sc__law_sizes_right.nd (vi_seq rfl (ve_var (pv 0))) (blkOk_by (N := ["_law_thing", "_law_size"]) (sc := defScope s__law_sizes_right) (by decide +kernel)) (fun _ _ _ _ _ => (vg_name (pg_name (i := 1) sc__law_sizes_right.nd rfl (Or.inl rfl)))) (fun _ _ _ _ _ => vts_nil) (fun _ _ _ _ _ => (ve_call hC elink0 (pe_call (v__law_whole T) (hr.mono (by decide)) (by rfl) (T.glo "_law_whole" rfl) (F__law_whole T).kp (B__law_whole T) .nil passL (va_cons (ve_var (pv 1)) (va_cons (ve_int pe_int) (va_cons (ve_int pe_int) va_nil)))) (fun _ _ _ => .nil)))))) va_nil)) d_all))))), ?_⟩)
  · rintro ds n Q E ⟨d, rfl, _⟩; rfl
  · obtain ⟨d, rfl, hp, hq⟩ := h
    walk_at "vin"
    walk_at "vw"
    cases e : seqOf d with
    | none =>
      refine y_LT (r := false) hp (by simp [e]) ?_
      walk_at "vw"
      simpa [sizesB, e] using hq
    | some es =>
      refine y_LT (r := true) hp (by simp [e]) ?_
      walk_at "vw"
      refine y_lenS e ?_
      walk_at "vw"
      by_cases h1 : 1 ≤ es.length
      · rw [decide_eq_false (show ¬ (es.length : Int) < 1 by omega)]
        walk_at "vw"
        refine y_lenS e ?_
        walk_at "vw"
        by_cases h2 : es.length ≤ 6
        · rw [decide_eq_false (show ¬ (6 : Int) < (es.length : Int) by omega)]
          walk_at "vw"
          refine y_seqD e ?_
          walk_at "vw"
          refine VF.y_lcMap (fun d => .bl (numB d 1 64)) (by omega) (fun j x acc R hj hacc hR => ?_) ?_
          · walk_at "vw"
            refine y_num ((seq_pl (k := 7) hp e x (List.mem_of_getElem? hj)).mono (by decide)) ?_
            walk_at "vw"
            exact hR
          · walk_at "vw"
            refine y_allM (p := fun d => numB d 1 64) ?_
            walk_at "vw"
            simpa [sizesB, e, h1, h2] using hq
        · rw [decide_eq_true (show (6 : Int) < (es.length : Int) by omega)]
          walk_at "vw"
          simpa [sizesB, e, h2] using hq
      · rw [decide_eq_true (show (es.length : Int) < 1 by omega)]
        walk_at "vw"
        simpa [sizesB, e, h1] using hq
def sParts : DSp := fun ds n Q _ => ∃ z xs s, ds = [z, .int s] ∧ SqD z (VF.iD xs) ∧ SzOk xs ∧ 0 ≤ s ∧ s ≤ 1000000000000 ∧ Q (.lst (VF.iD (trk xs s))) n
theorem sc__law_parts : FnScope ["_law_sizes_here", "_law_sign", "_law_found", "_law_k", "_law_size"] ["_law_sizes_here", "_law_sign"] (defScope s__law_parts) := ⟨rfl, rfl, rfl, by decide +kernel, rfl, by decide +kernel, by decide +kernel⟩
theorem v__law_parts (T : TT K mg) : FnOk P w K mg base (L2.CX P w) 1 (He.ga K "_law_parts") (fdOf K ("_law_parts", none)) ["_law_sizes_here", "_law_sign"] (liftSp K (Cs K) sParts) := by
  refine v_ok (F__law_parts T) sc__law_parts (by decide) (by decide) ?_ (fun cdv A outer s H W ds n Q' hC hE hr h => ⟨_, (vss_cons (vs_setO (ps_set (i := 2) sc__law_parts.nd rfl (Or.inl rfl) (vo_lst va_nil)))
  (vss_cons (vs_for (passes_of rfl) rfl (vi_rng1 (pi_range1 (by rfl) (T.free "range" rfl) (va_cons (ve_cb (pe_callB (call_lenK K) (by rfl) (T.free "len" rfl) boot_len (va_cons (ve_var (pv 0)) va_nil)) d_len) va_nil))) (vg_name (pg_name (i := 3) sc__law_parts.nd rfl (Or.inl rfl))) (vss_cons (vs_set (ps_set (i := 4) sc__law_parts.nd rfl (Or.inl rfl) (ve_ix (ix_LTK K) d_ix (ve_var (pv 0)) (ve_op op_sub d_I0 (ve_op op_sub d_I0 (ve_cb (pe_callB (call_lenK K) (by rfl) (T.free "len" rfl) boot_len (va_cons (ve_var (pv 0)) va_nil)) d_len) (ve_int pe_int)) (ve_var (pv 3))) (fun _ _ => rfl))))
  (vss_cons (vs_ins (ps_expr (pe_bm PySem.F.plainAttrs_list PySem.F.slot_list_insert PySem.F.type_list_insert mt_insertN (pv 2) (va_cons (ve_int pe_int) (va_cons (ve_op op_mod d_I (ve_cb (pe_callTy call_intX (by rfl) (T.free "int" rfl) boot_int (va_cons (ve_var (pv 1)) va_nil)) d_int) (ve_var (pv 4))) va_nil)))))
  (vss_one (vs_set (ps_set (i := 1) sc__law_parts.nd rfl (Or.inl rfl) (ve_op op_fdivW d_I (ve_var (pv 1)) (ve_var (pv 4)))))))))
  (vss_one (vs_ret (ps_ret (ve_var (pv 2))))))), ?_⟩)
  · rintro ds n Q E ⟨z, xs, s, rfl, _⟩; rfl
  · obtain ⟨z, xs, s, rfl, hz, hs, s0, s1, hq⟩ := h
    have hl := hs.2
    walk_at "vin"
    walk_at "vw"
    refine y_lenS (sq_of hz) ?_
    rw [List.length_map]
    walk_at "vw"
    refine VF.y_loop (fun i τ n' => n' = n ∧ i ≤ xs.length ∧ ∃ o1 o2, τ = [some (.d z), some (.d (.int (rst (xs.reverse.take i) s))), some (.own (VF.iD (dgs (xs.reverse.take i) s).reverse)), o1, o2]) ⟨rfl, Nat.zero_le _, _, _, rfl⟩ ?_ ?_
    · rintro i d τ n' hi ⟨rfl, il, o1, o2, rfl⟩
      have hi2 : i < xs.length := by
        have := (List.getElem?_eq_some_iff.mp hi).1
        rw [rngD_len] at this
        omega
      have hd : d = .int (i : Nat) := by
        have e : (rngD 0 (xs.length : Int).toNat)[i]? = some (.int (0 + (i : Int))) := by
          rw [rngD_map, List.getElem?_map, List.getElem?_range (by omega)]; rfl
        rw [e] at hi
        have := Option.some.inj hi
        rw [← this]; simp
      subst hd
      obtain ⟨x, hx⟩ : ∃ x, xs.reverse[i]? = some x := ⟨xs.reverse[i]'(by rw [List.length_reverse]; exact hi2), List.getElem?_eq_getElem _⟩
      have hx2 : xs[xs.length - 1 - i]? = some x := by rw [← List.getElem?_reverse hi2]; exact hx
      have hxa : atI (VF.iD xs) ((xs.length : Int) - 1 - (i : Int)) = some (.int x) := by
        have q := atI_nat (xs := VF.iD xs) (j := xs.length - 1 - i) (v := .int x) (by rw [List.getElem?_map, hx2]; rfl)
        rwa [show ((xs.length - 1 - i : Nat) : Int) = (xs.length : Int) - 1 - (i : Int) by omega] at q
      obtain ⟨x1, x2⟩ := hs.1 x (List.mem_of_getElem? hx2)
      obtain ⟨r0, r1⟩ := rst_bd (a := xs.reverse.take i) (s := s) (fun y hy => (hs.1 y (List.mem_reverse.mp (List.mem_of_mem_take hy))).1) s0
      have ln : (VF.iD (dgs (xs.reverse.take i) s).reverse).length ≤ 6 := by
        rw [List.length_map, List.length_reverse, dgs_len, List.length_take, List.length_reverse]; omega
      walk_at "vw"
      refine y_lenS (sq_of hz) ?_
      rw [List.length_map]
      walk_at "vw"
      refine y_ixS (sq_of hz) hxa ?_
      walk_at "vw"
      refine VF.y_ins2 rfl (by omega) (by omega) (by omega) ?_
      walk_at "vw"
      refine ⟨rfl, by omega, some (.d (.int (i : Nat))), some (.d (.int x)), ?_⟩
      rw [take_snoc hx, dgs_app, rst_app]
      simp [dgs, rst, VF.iD]
    · rintro τ n' ⟨rfl, il, o1, o2, rfl⟩
      have e : xs.reverse.take (rngD 0 (xs.length : Int).toNat).length = xs.reverse := by rw [rngD_len]; exact List.take_of_length_le (by rw [List.length_reverse]; omega)
      rw [e]
      walk_at "vw"
      exact hq
end
end BF
/-! ## The law's texts of deeds, deeds taken back -/
namespace BF
open PySem PySem.Spec PyProof.Rows L2 VF
theorem y_addS {x y : Str} {P : DP} (l : x.length + y.length ≤ 1000000) (k : P (.str (x ++ y))) : wAdd (.str x) (.str y) P := ⟨l, k⟩
/-- a deed as it was drawn: of the swap's table is known that it has no dict -/
def dZ : Dd → VF.DV
  | .sw ns => .tup [.str "swap", .tupz (VF.iD ns)]
  | D => dD D
theorem fgtL_iD : ∀ (ns : List Int), fgtL (VF.iD ns) = VF.iD ns
  | [] => rfl
  | n :: ns => by
    rw [VF.iD, List.map_cons]
    simp only [fgtL, fgt]
    rw [← VF.iD, fgtL_iD ns]
theorem fgtL_rD : ∀ (rs : List (Int × Int)), fgtL (rs.map rD) = rs.map rD
  | [] => rfl
  | r :: rs => by
    rw [List.map_cons]
    simp only [fgtL]
    rw [fgtL_rD rs]
    rfl
theorem fgt_dZ (D : Dd) : fgt (dZ D) = dD D := by
  cases D with
  | mv t x => rfl
  | sw ns => simp only [dZ, dD, fgt, fgtL, fgtL_iD]
  | ad t rs tab => simp only [dZ, dD, fgt, fgtL, fgtL_iD, fgtL_rD]
section
variable {P : Program} {w : World} {K : PySem.W.Frag} {mg : Str → Option Value} {base : Heap}
theorem sc__law_deed_text : FnScope ["_law_deed_here", "_law_words", "_law_k", "_law_pair"] ["_law_deed_here"] (defScope s__law_deed_text) := ⟨rfl, rfl, rfl, by decide +kernel, rfl, by decide +kernel, by decide +kernel⟩
theorem v__law_deed_text (T : TT K mg) : FnOk P w K mg base (L2.CX P w) 1 (He.ga K "_law_deed_text") (fdOf K ("_law_deed_text", none)) ["_law_deed_here"] (liftSp K (Cs K) sText) := by
  refine v_ok (F__law_deed_text T) sc__law_deed_text (by decide) (by decide) ?_ (fun cdv A outer s H W ds n Q' hC hE hr h => ⟨_, (vss_cons (vs_set (ps_set (i := 1) sc__law_deed_text.nd rfl (Or.inl rfl) (ve_lst (va_cons (ve_ix (ix_LTK K) d_ix (ve_var (pv 0)) (ve_int pe_int) (fun _ _ => rfl)) va_nil))))
  (vss_cons (vs_if (vt_cmp (op_eqU K hr.units) d_eq (ve_ix (ix_LTK K) d_ix (ve_var (pv 0)) (ve_int pe_int) (fun _ _ => rfl)) (ve_str pe_str) (nomark _)) (vss_one (vs_set (ps_set (i := 1) sc__law_deed_text.nd rfl (Or.inl rfl) (ve_op (op_addD K) d_add (ve_var (pv 1)) (ve_ofO (vo_lc (pe_lc (own := [("_law_k", 2)]) rfl sc__law_deed_text.nd (vi_tup rfl (ve_ix (ix_LTK K) d_ix (ve_var (pv 0)) (ve_int pe_int) (fun _ _ => rfl))) (blkOk_by (N := ["_law_deed_here", "_law_words", "_law_k", "_law_pair"]) (sc := defScope s__law_deed_text) (by decide +kernel)) (fun _ _ _ _ _ => (vg_name (pg_name (i := 2) sc__law_deed_text.nd rfl (Or.inl rfl)))) (fun _ _ _ _ _ => vts_nil) (fun _ _ _ _ _ => (ve_cb (pe_callTy call_str_int (by rfl) (T.free "str" rfl) boot_str (va_cons (ve_var (pv 2)) va_nil)) d_strI))))))))) (vss_one (vs_if (vt_cmp (op_eqU K hr.units) d_eq (ve_ix (ix_LTK K) d_ix (ve_var (pv 0)) (ve_int pe_int) (fun _ _ => rfl)) (ve_str pe_str) (nomark _)) (vss_one (vs_set (ps_set (i := 1) sc__law_deed_text.nd rfl (Or.inl rfl) (ve_op (op_addD K) d_add (ve_var (pv 1)) (ve_lst (va_cons (ve_cb (pe_callTy call_str_int (by rfl) (T.free "str" rfl) boot_str (va_cons (ve_ix (ix_LTK K) d_ix (ve_var (pv 0)) (ve_int pe_int) (fun _ _ => rfl)) va_nil)) d_strI) (va_cons (ve_cb (pe_callTy call_str_int (by rfl) (T.free "str" rfl) boot_str (va_cons (ve_ix (ix_LTK K) d_ix (ve_var (pv 0)) (ve_int pe_int) (fun _ _ => rfl)) va_nil)) d_strI) va_nil))))))) (vss_cons (vs_set (ps_set (i := 1) sc__law_deed_text.nd rfl (Or.inl rfl) (ve_op (op_addD K) d_add (ve_op (op_addD K) d_add (ve_var (pv 1)) (ve_lst (va_cons (ve_cb (pe_callTy call_str_int (by rfl) (T.free "str" rfl) boot_str (va_cons (ve_ix (ix_LTK K) d_ix (ve_var (pv 0)) (ve_int pe_int) (fun _ _ => rfl)) va_nil)) d_strI) va_nil))) (ve_ofO (vo_lc (pe_lc (own := [("_law_pair", 3)]) rfl sc__law_deed_text.nd (vi_tup rfl (ve_ix (ix_LTK K) d_ix (ve_var (pv 0)) (ve_int pe_int) (fun _ _ => rfl))) (blkOk_by (N := ["_law_deed_here", "_law_words", "_law_k", "_law_pair"]) (sc := defScope s__law_deed_text) (by decide +kernel)) (fun _ _ _ _ _ => (vg_name (pg_name (i := 3) sc__law_deed_text.nd rfl (Or.inl rfl)))) (fun _ _ _ _ _ => vts_nil) (fun _ _ _ _ _ => (ve_op (op_addD K) d_add (ve_op (op_addD K) d_add (ve_cb (pe_callTy call_str_int (by rfl) (T.free "str" rfl) boot_str (va_cons (ve_ix (ix_LTK K) d_ix (ve_var (pv 3)) (ve_int pe_int) (fun _ _ => rfl)) va_nil)) d_strI) (ve_str pe_str)) (ve_cb (pe_callTy call_str_int (by rfl) (T.free "str" rfl) boot_str (va_cons (ve_ix (ix_LTK K) d_ix (ve_var (pv 3)) (ve_int pe_int) (fun _ _ => rfl)) va_nil)) d_strI)))))))))
  (vss_one (vs_set (ps_set (i := 1) sc__law_deed_text.nd rfl (Or.inl rfl) (ve_op (op_addD K) d_add (ve_op (op_addD K) d_add (ve_var (pv 1)) (ve_lst (va_cons (ve_str pe_str) va_nil))) (ve_ofO (vo_lc (pe_lc (own := [("_law_k", 2)]) rfl sc__law_deed_text.nd (vi_tup rfl (ve_ix (ix_LTK K) d_ix (ve_var (pv 0)) (ve_int pe_int) (fun _ _ => rfl))) (blkOk_by (N := ["_law_deed_here", "_law_words", "_law_k", "_law_pair"]) (sc := defScope s__law_deed_text) (by decide +kernel)) (fun _ _ _ _ _ => (vg_name (pg_name (i := 2) sc__law_deed_text.nd rfl (Or.inl rfl)))) (fun _ _ _ _ _ => vts_nil) (fun _ _ _ _ _ => (ve_cb (pe_callTy call_str_int (by rfl) (T.free "str" rfl) boot_str (va_cons (ve_var (pv 2)) va_nil)) d_strI)))))))))))))
  (vss_one (vs_ret (ps_ret (ve_join (pe_join (ve_str pe_str) (ve_var (pv 1))))))))), ?_⟩)
  · rintro ds n Q E ⟨D, xs, rfl, _⟩; rfl
  · obtain ⟨D, xs, rfl, hs, hp, ok, hq⟩ := h
    have sm := dd_small hs hp ok
    have c1 : ((" " : Str)).length = 1 := by decide
    have cc : ((":" : Str)).length = 1 := by decide
    cases D with
    | mv t x =>
      obtain ⟨lt, gt, _⟩ := ts_ok (sm t (.inl rfl)).1 (sm t (.inl rfl)).2
      obtain ⟨lx, gx, _⟩ := ts_ok (sm x (.inr rfl)).1 (sm x (.inr rfl)).2
      unfold dD
      walk_at "vin"
      walk_at "vw"
      refine y_strI gt ?_
      walk_at "vw"
      refine y_strI gx ?_
      walk_at "vw"
      refine VF.y_addL (by simp) ?_
      walk_at "vw"
      refine y_join1 ?_
      walk_at "vw"
      have e : ([VF.DV.str "move"] ++ [VF.DV.str (tS t), VF.DV.str (tS x)]) = (wordsD (.mv t x)).map VF.DV.str := rfl
      rw [e]
      refine y_join2 (ys := wordsD (.mv t x)) ?_ ?_
      · have c4 : (("move" : Str)).length = 4 := by decide
        simp only [wordsD, List.map_cons, List.map_nil, List.sum_cons, List.sum_nil, List.length_cons, List.length_nil, c1, c4]
        simp only [tS] at *
        omega
      · walk_at "vw"
        exact hq
    | sw ns =>
      have hn : ns.length ≤ 64 := by have := ok.1; omega
      unfold dD
      walk_at "vin"
      walk_at "vw"
      refine VF.y_lcA ns VF.DV.int (fun i => .str (tS i)) rfl (by omega) (fun j i acc R hj hacc hR => ?_) ?_
      · obtain ⟨_, gi, _⟩ := ts_ok (sm i (List.mem_of_getElem? hj)).1 (sm i (List.mem_of_getElem? hj)).2
        walk_at "vw"
        refine y_strI gi ?_
        walk_at "vw"
        exact hR
      · walk_at "vw"
        refine VF.y_addL (by simp; omega) ?_
        walk_at "vw"
        refine y_join1 ?_
        walk_at "vw"
        have e : ([VF.DV.str "swap"] ++ ns.map fun i => VF.DV.str (tS i)) = (wordsD (.sw ns)).map VF.DV.str := by simp [wordsD, Function.comp_def]
        rw [e]
        refine y_join2 (ys := wordsD (.sw ns)) ?_ ?_
        · have h1 := sum_le (ws := wordsD (.sw ns)) (m := 4) fun x hx => by
            rcases List.mem_cons.mp hx with e | hx
            · rw [e]; decide
            · obtain ⟨i, hi, rfl⟩ := List.mem_map.mp hx
              exact (ts_ok (sm i hi).1 (sm i hi).2).1
          have h2 : (wordsD (.sw ns)).length = ns.length + 1 := by simp [wordsD]
          rw [c1]
          omega
        · walk_at "vw"
          exact hq
    | ad t rs tab =>
      have ht := tab_le hs ok
      obtain ⟨lt, gt, _⟩ := ts_ok (sm t (.inl rfl)).1 (sm t (.inl rfl)).2
      obtain ⟨h1, h2, h3, h4, h5, h6, h7⟩ := ok
      have rl : ∀ r ∈ rs, (tS r.1).length ≤ 4 ∧ (tS r.2).length ≤ 4 ∧ r.1.natAbs.log2 < 1920 ∧ r.2.natAbs.log2 < 1920 := fun r hr => by
        have s1 := sm r.1 (.inr (.inr ⟨r, hr, .inl rfl⟩))
        have s2 := sm r.2 (.inr (.inr ⟨r, hr, .inr rfl⟩))
        exact ⟨(ts_ok s1.1 s1.2).1, (ts_ok s2.1 s2.2).1, (ts_ok s1.1 s1.2).2.1, (ts_ok s2.1 s2.2).2.1⟩
      unfold dD
      walk_at "vin"
      walk_at "vw"
      refine y_strI gt ?_
      walk_at "vw"
      refine VF.y_addL (by simp) ?_
      walk_at "vw"
      refine VF.y_lcA rs rD (fun r => .str (rdS r)) rfl (by omega) (fun j r acc R hj hacc hR => ?_) ?_
      · obtain ⟨l1, l2, g1, g2⟩ := rl r (List.mem_of_getElem? hj)
        unfold rD
        walk_at "vw"
        refine y_strI g1 ?_
        walk_at "vw"
        refine y_addS (by simp only [tS] at *; omega) ?_
        walk_at "vw"
        refine y_strI g2 ?_
        walk_at "vw"
        refine y_addS (by rw [app_len]; simp only [tS] at *; omega) ?_
        walk_at "vw"
        exact hR
      · walk_at "vw"
        refine VF.y_addL (by simp; omega) ?_
        walk_at "vw"
        refine VF.y_addL (by simp; omega) ?_
        walk_at "vw"
        refine VF.y_lcA tab VF.DV.int (fun i => .str (tS i)) rfl (by omega) (fun j i acc R hj hacc hR => ?_) ?_
        · obtain ⟨_, gi, _⟩ := ts_ok (sm i (.inr (.inl (List.mem_of_getElem? hj)))).1 (sm i (.inr (.inl (List.mem_of_getElem? hj)))).2
          walk_at "vw"
          refine y_strI gi ?_
          walk_at "vw"
          exact hR
        · walk_at "vw"
          refine VF.y_addL (by simp; omega) ?_
          walk_at "vw"
          refine y_join1 ?_
          walk_at "vw"
          have e : ([VF.DV.str "add"] ++ [VF.DV.str (tS t)] ++ (rs.map fun r => VF.DV.str (rdS r)) ++ [VF.DV.str "="] ++ tab.map fun i => VF.DV.str (tS i)) = (wordsD (.ad t rs tab)).map VF.DV.str := by simp [wordsD, Function.comp_def]
          rw [e]
          refine y_join2 (ys := wordsD (.ad t rs tab)) ?_ ?_
          · have q1 := sum_le (ws := wordsD (.ad t rs tab)) (m := 9) fun x hx => by
              rcases List.mem_append.mp hx with hx | hx
              · rcases List.mem_append.mp hx with hx | hx
                · rcases List.mem_append.mp hx with hx | hx
                  · rcases List.mem_cons.mp hx with e | hx
                    · rw [e]; decide
                    · rw [List.mem_singleton.mp hx]; omega
                  · obtain ⟨r, hr, rfl⟩ := List.mem_map.mp hx
                    obtain ⟨l1, l2, _⟩ := rl r hr
                    rw [rdS, app_len, app_len, cc]; omega
                · rw [List.mem_singleton.mp hx]; decide
              · obtain ⟨i, hi, rfl⟩ := List.mem_map.mp hx
                have := (ts_ok (sm i (.inr (.inl hi))).1 (sm i (.inr (.inl hi))).2).1
                omega
            have q2 : (wordsD (.ad t rs tab)).length = rs.length + tab.length + 3 := by simp [wordsD]; omega
            rw [c1]
            omega
          · walk_at "vw"
            exact hq
end
end BF
/-! ## The law's deeds taken back; like values -/
namespace BF
open PySem PySem.Spec PyProof.Rows L2 VF
section
variable {P : Program} {w : World} {K : PySem.W.Frag} {mg : Str → Option Value} {base : Heap}
def sUndone : DSp := fun ds n Q _ => ∃ z xs D, ds = [z, dZ D] ∧ SqD z (VF.iD xs) ∧ SzOk xs ∧ prod xs ≤ 64 ∧ DdOk xs D ∧ Q (dD (inv xs D)) n
theorem sc__law_undone : FnScope ["_law_sizes_here", "_law_deed_here", "_law_k", "_law_x"] ["_law_sizes_here", "_law_deed_here"] (defScope s__law_undone) := ⟨rfl, rfl, rfl, by decide +kernel, rfl, by decide +kernel, by decide +kernel⟩
theorem v__law_undone (T : TT K mg) : FnOk P w K mg base (L2.CX P w) 1 (He.ga K "_law_undone") (fdOf K ("_law_undone", none)) ["_law_sizes_here", "_law_deed_here"] (liftSp K (Cs K) sUndone) := by
  refine v_ok (F__law_undone T) sc__law_undone (by decide) (by decide) ?_ (fun cdv A outer s H W ds n Q' hC hE hr h => ⟨_, (vss_cons (vs_if (vt_cmp (op_eqU K hr.units) d_eq (ve_ix (ix_LTK K) d_ix (ve_varZ (pv 1)) (ve_int pe_int) (fun _ _ => rfl)) (ve_str pe_str) (nomark _)) (vss_one (vs_ret (ps_ret (ve_tup (va_cons (ve_str pe_str) (va_cons (ve_ix (ix_LTK K) d_ix (ve_varZ (pv 1)) (ve_int pe_int) (fun _ _ => rfl)) (va_cons (ve_op op_sub d_I0 (ve_int pe_int) (ve_ix (ix_LTK K) d_ix (ve_varZ (pv 1)) (ve_int pe_int) (fun _ _ => rfl))) va_nil))))))) vss_nil)
  (vss_cons (vs_if (vt_cmp (op_eqU K hr.units) d_eq (ve_ix (ix_LTK K) d_ix (ve_varZ (pv 1)) (ve_int pe_int) (fun _ _ => rfl)) (ve_str pe_str) (nomark _)) (vss_one (vs_ret (ps_ret (ve_tup (va_cons (ve_str pe_str) (va_cons (ve_cb (pe_callTy (call_tupLTK K) (by rfl) (T.free "tuple" rfl) boot_tuple (va_cons (ve_ofO (vo_lc (pe_lc (own := [("_law_k", 2)]) rfl sc__law_undone.nd (vi_rng1 (pi_range1 (by rfl) (T.free "range" rfl) (va_cons (ve_cb (pe_callB (call_lenK K) (by rfl) (T.free "len" rfl) boot_len (va_cons (ve_ix (ix_LTK K) d_ix (ve_varZ (pv 1)) (ve_int pe_int) (fun _ _ => rfl)) va_nil)) d_len) va_nil))) (blkOk_by (N := ["_law_sizes_here", "_law_deed_here", "_law_k", "_law_x"]) (sc := defScope s__law_undone) (by decide +kernel)) (fun _ _ _ _ _ => (vg_name (pg_name (i := 2) sc__law_undone.nd rfl (Or.inl rfl)))) (fun _ _ _ _ _ => vts_nil) (fun _ _ _ _ _ => (ve_tix (GA.pe_bmZ PySem.F.plainAttrs_tuple PySem.F.slot_tuple_index PySem.F.type_tuple_index (mt_tixK K) (ve_ix (ix_LTK K) d_ix (ve_var (pv 1)) (ve_int pe_int) (fun _ _ => rfl)) (va_cons (ve_var (pv 2)) va_nil))))))) va_nil)) d_tuple) va_nil)))))) vss_nil)
  (vss_one (vs_ret (ps_ret (ve_tup (va_cons (ve_str pe_str) (va_cons (ve_ix (ix_LTK K) d_ix (ve_varZ (pv 1)) (ve_int pe_int) (fun _ _ => rfl)) (va_cons (ve_ix (ix_LTK K) d_ix (ve_varZ (pv 1)) (ve_int pe_int) (fun _ _ => rfl)) (va_cons (ve_cb (pe_callTy (call_tupLTK K) (by rfl) (T.free "tuple" rfl) boot_tuple (va_cons (ve_ofO (vo_lc (pe_lc (own := [("_law_x", 3)]) rfl sc__law_undone.nd (vi_tup rfl (ve_ix (ix_LTK K) d_ix (ve_varZ (pv 1)) (ve_int pe_int) (fun _ _ => rfl))) (blkOk_by (N := ["_law_sizes_here", "_law_deed_here", "_law_k", "_law_x"]) (sc := defScope s__law_undone) (by decide +kernel)) (fun _ _ _ _ _ => (vg_name (pg_name (i := 3) sc__law_undone.nd rfl (Or.inl rfl)))) (fun _ _ _ _ _ => vts_nil) (fun _ _ _ _ _ => (ve_op op_mod d_I (ve_cb (pe_callTy call_intX (by rfl) (T.free "int" rfl) boot_int (va_cons (ve_op op_sub d_I0 (ve_int pe_int) (ve_var (pv 3))) va_nil)) d_int) (ve_ix (ix_LTK K) d_ix (ve_var (pv 0)) (ve_ix (ix_LTK K) d_ix (ve_varZ (pv 1)) (ve_int pe_int) (fun _ _ => rfl)) (fun _ _ => rfl))))))) va_nil)) d_tuple) va_nil)))))))))), ?_⟩)
  · rintro ds n Q E ⟨z, xs, D, rfl, _⟩; rfl
  · obtain ⟨z, xs, D, rfl, hz, hs, hp, ok, hq⟩ := h
    have fg := fgt_dZ D
    walk_at "vin"
    cases D with
    | mv t x =>
      walk_at "vw"
      refine VF.y_varZ rfl fg ?_
      unfold dD
      walk_at "vw"
      refine VF.y_varZ rfl fg ?_
      unfold dD
      walk_at "vw"
      refine VF.y_varZ rfl fg ?_
      unfold dD
      walk_at "vw"
      have e : (0 : Int) - x = -x := by omega
      rw [e]
      exact hq
    | ad t rs tab =>
      have hl := tab_le hs ok
      obtain ⟨h1, h2, h3, h4, h5, h6, h7⟩ := ok
      obtain ⟨a1, a2⟩ := at_ok hs h1 h2
      walk_at "vw"
      refine VF.y_varZ rfl fg ?_
      unfold dD
      walk_at "vw"
      refine VF.y_varZ rfl fg ?_
      unfold dD
      walk_at "vw"
      refine VF.y_varZ rfl fg ?_
      unfold dD
      walk_at "vw"
      refine VF.y_varZ rfl fg ?_
      unfold dD
      walk_at "vw"
      refine VF.y_varZ rfl fg ?_
      unfold dD
      walk_at "vw"
      refine VF.y_lcA tab VF.DV.int (fun v => .int ((at' xs t - v) % at' xs t)) rfl (by omega) (fun j v acc R hj hacc hR => ?_) ?_
      · walk_at "vw"
        refine VF.y_varZ rfl fg ?_
        unfold dD
        walk_at "vw"
        refine y_ixS (sq_of hz) (atI_iD h1 h2) ?_
        have e0 : xs.getD t.toNat 0 = at' xs t := rfl
        rw [e0]
        walk_at "vw"
        have e : (0 - v) % at' xs t = (at' xs t - v) % at' xs t := by
          rw [show at' xs t - v = (0 - v) + at' xs t by omega, Int.add_emod_right]
        rw [e]
        exact hR
      · walk_at "vw"
        have e : (tab.map fun v => VF.DV.int ((at' xs t - v) % at' xs t)) = VF.iD (tab.map fun v => (at' xs t - v) % at' xs t) := by simp [VF.iD, Function.comp_def]
        rw [e]
        exact hq
    | sw ns =>
      have pm := sw_perm ok
      have hn : ns.length ≤ 64 := by have := ok.1; omega
      walk_at "vw"
      refine VF.y_varZ rfl fg ?_
      unfold dD
      walk_at "vw"
      refine VF.y_varZ rfl fg ?_
      unfold dD
      walk_at "vw"
      refine VF.y_varZ rfl fg ?_
      unfold dD
      walk_at "vw"
      rw [show (VF.iD ns).length = ns.length from List.length_map ..]
      walk_at "vw"
      refine VF.y_lcA (List.range ns.length) (fun k => VF.DV.int (0 + (k : Int))) (fun k => .int ((ns.idxOf (k : Int) : Nat) : Int)) ?_ (by simp; omega) (fun j k acc R hj hacc hR => ?_) ?_
      · simp [rngD]
      · have hk : k < ns.length := by
          have := List.mem_of_getElem? hj
          exact List.mem_range.mp this
        have hm := perm_mem pm hk
        unfold dZ
        walk_at "vw"
        refine ⟨ns, rfl, ?_⟩
        walk_at "vw"
        refine ⟨k, ns.idxOf (k : Int), by simp, idx_get hm, fun m hlt he => ?_, ?_⟩
        · have := nd_idx pm.2 he (idx_get hm)
          omega
        walk_at "vw"
        exact hR
      · walk_at "vw"
        have e : ((List.range ns.length).map fun (k : Nat) => VF.DV.int ((ns.idxOf (k : Int) : Nat) : Int)) = VF.iD (invT ns) := by simp [VF.iD, invT, Function.comp_def]
        rw [e]
        exact hq
theorem y_undone {z : VF.DV} {xs : List Int} {D : Dd} {n : Int} {Q : VF.DV → Int → Prop} {E : XV} (hz : SqD z (VF.iD xs)) (hs : SzOk xs) (hp : prod xs ≤ 64) (h : DdOk xs D) (q : Q (dD (inv xs D)) n) : sUndone ([z, dZ D] ++ []) n Q E := ⟨z, xs, D, rfl, hz, hs, hp, h, q⟩
end
end BF
/-! ## .. is None step by step; plain data whose lists have a length -/
namespace VF
open PySem PySem.Spec PyProof.Rows L2
section
variable {P : DP} {neg : Bool}
theorem y_n_non (k : P (.bl (!neg))) : wIsN neg .non .non P := k
theorem y_n_bl {b : Bool} (k : P (.bl neg)) : wIsN neg (.bl b) .non P := k
theorem y_n_int {i : Int} (k : P (.bl neg)) : wIsN neg (.int i) .non P := k
theorem y_n_str {z : Str} (k : P (.bl neg)) : wIsN neg (.str z) .non P := k
theorem y_n_lst {ds : List DV} (k : P (.bl neg)) : wIsN neg (.lst ds) .non P := k
theorem y_n_tup {ds : List DV} (k : P (.bl neg)) : wIsN neg (.tup ds) .non P := k
end
theorem y_zipT {xs ys : List DV} {R : List DV → List DV → Prop} (k : R xs ys) : ∃ xs' ys', ([DV.tup xs, .tup ys] = [.lst xs', .lst ys'] ∨ [DV.tup xs, .tup ys] = [.tup xs', .tup ys']) ∧ R xs' ys' := ⟨xs, ys, .inr rfl, k⟩
mutual
/-- each list in it has a length that the model lets -/
def okL : DV → Bool
  | .lst ds => decide (ds.length ≤ 1000000) && okLs ds
  | .tup ds => decide (ds.length ≤ 1000000) && okLs ds
  | _ => true
def okLs : List DV → Bool
  | [] => true
  | d :: ds => okL d && okLs ds
end
theorem okLs_mem : ∀ {ds : List DV}, okLs ds = true ↔ ∀ d ∈ ds, okL d = true
  | [] => by simp [okLs]
  | d :: ds => by simp [okLs, okLs_mem (ds := ds)]
/-- plain data at most k deep, of lengths that the model lets -/
def Pz (k : Nat) (d : DV) : Prop := Pl k d ∧ okL d = true
theorem Pz.non {k : Nat} : Pz k .non := ⟨.non, rfl⟩
theorem Pz.bl {k : Nat} {b : Bool} : Pz k (.bl b) := ⟨.bl, rfl⟩
theorem Pz.int {k : Nat} {i : Int} : Pz k (.int i) := ⟨.int, rfl⟩
theorem Pz.str {k : Nat} {z : Str} (h : (PyData.str z).canLay0 = true) : Pz k (.str z) := ⟨.str h, rfl⟩
theorem Pz.lst {k : Nat} {ds : List DV} (h : ∀ d ∈ ds, Pz k d) (l : ds.length ≤ 1000000) : Pz (k + 1) (.lst ds) := ⟨.lst fun d hd => (h d hd).1, by simp only [okL, l, decide_true, Bool.true_and]; exact okLs_mem.mpr fun d hd => (h d hd).2⟩
theorem Pz.tup {k : Nat} {ds : List DV} (h : ∀ d ∈ ds, Pz k d) (l : ds.length ≤ 1000000) : Pz (k + 1) (.tup ds) := ⟨.tup fun d hd => (h d hd).1, by simp only [okL, l, decide_true, Bool.true_and]; exact okLs_mem.mpr fun d hd => (h d hd).2⟩
theorem Pz.of_lst {k : Nat} {ds : List DV} (h : Pz (k + 1) (.lst ds)) : ∀ d ∈ ds, Pz k d := fun d hd => ⟨h.1.of_lst d hd, okLs_mem.mp (by have := h.2; simp only [okL, Bool.and_eq_true] at this; exact this.2) d hd⟩
theorem Pz.of_tup {k : Nat} {ds : List DV} (h : Pz (k + 1) (.tup ds)) : ∀ d ∈ ds, Pz k d := fun d hd => ⟨h.1.of_tup d hd, okLs_mem.mp (by have := h.2; simp only [okL, Bool.and_eq_true] at this; exact this.2) d hd⟩
theorem Pz.len_lst {k : Nat} {ds : List DV} (h : Pz k (.lst ds)) : ds.length ≤ 1000000 := by have := h.2; simp only [okL, Bool.and_eq_true, decide_eq_true_eq] at this; exact this.1
theorem Pz.len_tup {k : Nat} {ds : List DV} (h : Pz k (.tup ds)) : ds.length ≤ 1000000 := by have := h.2; simp only [okL, Bool.and_eq_true, decide_eq_true_eq] at this; exact this.1
theorem Pz.mono {k l : Nat} {d : DV} (h : Pz k d) (hl : k ≤ l) : Pz l d := ⟨h.1.mono hl, h.2⟩
theorem zip_self : ∀ {ds : List DV}, zipD ds ds = ds.map fun d => .tup [d, d]
  | [] => rfl
  | d :: ds => by
    have := zip_self (ds := ds)
    simp only [zipD, List.zipWith_cons_cons, List.map_cons] at this ⊢
    rw [this]
theorem all_true {α : Type} : ∀ {ds : List α}, (ds.all fun _ => true) = true
  | [] => rfl
  | _ :: ds => by simp
end VF
/-! ## .. op l, of a list l of a slot's own: it stays the slot's own -/
namespace VF
open PySem PySem.Spec PyProof.Rows L2
section
variable {K : PySem.W.Frag} {W : Wc} {X : Cx} {e a b : Expr} {wa : WE} {τ : ST} {n : Int} {Q : DV → ST → Int → Prop} {P : DP} {pos : Pos} {i : Nat}
def wOpV (w : DV → DV → DP → Prop) (wa : WE) (i : Nat) : WE := fun τ n Q => wa τ n fun d τ1 n1 => ∃ xs, τ1[i]? = some (some (.own xs)) ∧ w d (.lst xs) fun f => ∃ c, f = .bl c ∧ Q (.bl c) τ1 n1
theorem liftV {r : R2} {w : DV → DV → DP → Prop} (hd : DOp K r w) {σ : L2.St} {H : Hp} {Q : VK} (h : liftE K W (wOpV w wa i) σ H Q) : tOp r (liftE K W wa) (tVar i) σ H Q := by
  obtain ⟨Γ, O, τ, n, Q', q, hw, k⟩ := h
  refine ⟨Γ, O, τ, n, _, q, hw, fun u H1 d O1 τ1 n1 q1 d1 ⟨xs, hs, hq⟩ => ?_⟩
  obtain ⟨v, hv, a, vs, e1, e2, e3, e4⟩ := q1.slot i _ hs
  subst e1
  refine ⟨_, hv, hd W.b [] H1 u (.ref a) d (.lst xs) _ Q (fun _ h => (List.not_mem_nil h).elim) (d1.sub fun _ h => (List.not_mem_nil h).elim) (.lst ⟨e3, by simp⟩ (e4.sub fun _ h => (List.not_mem_nil h).elim)) hq fun z H2 f ex df ⟨c, ef, qf⟩ => ?_⟩
  subst ef
  cases df
  exact k _ H2 _ O1 τ1 n1 (q1.ex ex) (.bl c) qf
theorem ve_opV {op : CmpOp} {r : R2} {w : DV → DV → DP → Prop} (ho : OpR X (compareOp op) r) (hd : DOp K r w) (ha : PE X a (liftE K W wa)) (hb : PE X b (tVar i)) (hm : behindInMarks op b = false) : PE X (.Compare a [op] [b] pos) (liftE K W (wOpV w wa i)) := BF.PE.imp (pe_cmpR ho ha hb hm) fun _ _ _ q => liftV hd q
theorem vt_opV {op : CmpOp} {r : R2} {w : DV → DV → DP → Prop} (ho : OpR X (compareOp op) r) (hd : DOp K r w) (ha : PE X a (liftE K W wa)) (hb : PE X b (tVar i)) (hm : behindInMarks op b = false) : PT X (.Compare a [op] [b] pos) (liftT K W (wB (wOpV w wa i))) := PT.imp (pt_cmpR ho ha hb hm) fun σ H Q h => liftV hd (liftB h)
theorem y_opV {w : DV → DV → DP → Prop} (k : wa τ n fun d τ1 n1 => ∃ xs, τ1[i]? = some (some (.own xs)) ∧ w d (.lst xs) fun f => ∃ c, f = .bl c ∧ Q (.bl c) τ1 n1) : wOpV w wa i τ n Q := k
theorem y_opV2 {xs : List DV} {R : List DV → Prop} (h : τ[i]? = some (some (.own xs))) (k : R xs) : ∃ xs, τ[i]? = some (some (.own xs)) ∧ R xs := ⟨xs, h, k⟩
theorem y_rng2 {wr : WA} {QA : List DV → ST → Int → Prop} (k : wr τ n fun ds τ1 n1 => ∃ i j, ds = [.int i, .int j] ∧ -1000000000000 ≤ i ∧ i ≤ 1000000000000 ∧ -1000000000000 ≤ j ∧ j ≤ 1000000000000 ∧ QA (rngD i (j - i).toNat) τ1 n1) : wRng2 wr τ n QA := k
theorem y_rng2b {y z : Int} {R : Int → Int → Prop} (h0 : -1000000000000 ≤ y) (h1 : y ≤ 1000000000000) (h2 : -1000000000000 ≤ z) (h3 : z ≤ 1000000000000) (k : R y z) : ∃ i j, [DV.int y, .int z] = [.int i, .int j] ∧ -1000000000000 ≤ i ∧ i ≤ 1000000000000 ∧ -1000000000000 ≤ j ∧ j ≤ 1000000000000 ∧ R i j := ⟨y, z, rfl, h0, h1, h2, h3, k⟩
end
end VF
local macro_rules | `(tactic| walk_at "v4") => `(tactic| (with_reducible first | refine' VF.y_n_non ?_ | refine' VF.y_n_bl ?_ | refine' VF.y_n_int ?_ | refine' VF.y_n_str ?_ | refine' VF.y_n_lst ?_ | refine' VF.y_n_tup ?_ | refine' VF.y_zipT ?_ | refine' VF.y_opV ?_ | refine' VF.y_rng2 ?_))
local macro_rules | `(tactic| walk_at "vx") => `(tactic| repeat (first | ((with_reducible first | refine' VF.y_seq ?_ | refine' VF.y_next ?_ | refine' VF.y_set ?_ | refine' VF.y_setO ?_ | refine' VF.y_asg ?_ | refine' VF.y_par ?_ | refine' VF.y_par2 ?_ | refine' VF.y_parO1 ?_ | refine' VF.y_parO2 ?_ | refine' VF.y_ret ?_ | refine' VF.y_retN ?_ | refine' VF.y_ifS ?_ | refine' VF.y_drop ?_ | refine' VF.y_brk ?_ | refine' VF.y_cnt ?_ | refine' VF.y_setI ?_ | refine' VF.y_for ?_ | refine' VF.y_raise ?_ | refine' VF.y_c ?_ | refine' VF.y_op ?_ | refine' VF.y_un ?_ | refine' VF.y_nil ?_ | refine' VF.y_cons ?_ | refine' VF.y_cb ?_ | refine' VF.y_tup ?_ | refine' VF.y_lst ?_ | refine' VF.y_lstO ?_ | refine' VF.y_B ?_ | refine' VF.y_bl ?_ | refine' VF.y_and ?_ | refine' VF.y_or ?_ | refine' VF.y_not ?_ | refine' VF.y_andV ?_ | refine' VF.y_orV ?_ | refine' VF.y_notV ?_ | refine' VF.y_if ?_ | refine' VF.y_sl ?_ | refine' VF.y_P0 ?_ | refine' VF.y_P1 ?_ | refine' VF.y_int ?_ | refine' VF.y_chain ?_ | refine' VF.y_call ?_ | refine' VF.y_meth ?_ | refine' VF.y_fld ?_ | refine' VF.y_OL ?_ | refine' VF.y_lc ?_ | refine' VF.y_yes ?_ | refine' VF.y_name ?_ | refine' VF.y_gnil ?_ | refine' VF.y_gcons ?_ | refine' VF.y_rng1 ?_ | refine' VF.y_zip ?_ | refine' VF.y_zipL ?_ | refine' VF.y_iL ?_ | refine' VF.y_iT ?_ | refine' VF.y_tru (b := true) ?_ | refine' VF.y_listO ?_ | refine' VF.y_listO1 ?_ | refine' VF.y_listO2 ?_ | refine' VF.y_own2 ?_ | refine' VF.y_own2N ?_ | refine' VF.y_own2b ?_ | refine' VF.y_addI ?_ | refine' VF.y_I0 ?_ | refine' VF.y_IB ?_ | refine' VF.y_neg ?_ | refine' VF.y_slL ?_ | refine' VF.y_slT ?_ | refine' VF.y_lenL ?_ | refine' VF.y_lenT ?_ | refine' VF.y_listL ?_ | refine' VF.y_listT ?_ | refine' VF.y_tupL ?_ | refine' VF.y_tupT ?_ | refine' VF.y_intI ?_ | refine' VF.y_abs ?_ | refine' VF.y_max ?_ | refine' VF.y_min ?_ | refine' VF.y_eqI ?_ | refine' VF.y_neI ?_ | refine' VF.y_eqS ?_ | refine' VF.y_neS ?_ | refine' VF.y_eqB ?_ | refine' VF.y_neB ?_ | refine' BF.x_iteY ?_ | refine' BF.x_iteNo ?_)) | (first | ((with_reducible apply VF.y_nx); ((first | (simp only [List.set_cons_succ, List.set_cons_zero]; done) | (simp only [List.set_cons_succ, List.set_cons_zero]; rfl) | rfl))) | ((with_reducible apply VF.y_nxG); ((first | (simp only [List.set_cons_succ, List.set_cons_zero]; done) | (simp only [List.set_cons_succ, List.set_cons_zero]; rfl) | rfl)))) | (first | ((with_reducible apply VF.y_var); (with_unfolding_all rfl)) | ((with_reducible apply VF.y_varF); (with_unfolding_all rfl)) | ((with_reducible apply VF.y_varO); (with_unfolding_all rfl)) | ((with_reducible apply VF.y_ixL); (with_unfolding_all rfl)) | ((with_reducible apply VF.y_ixT); (with_unfolding_all rfl)) | ((with_reducible apply VF.y_gtup); (with_unfolding_all rfl)) | ((with_reducible apply VF.y_len1); (simp only [List.length_cons, List.length_nil]; omega)) | ((with_reducible apply VF.y_I); ((first | ((with_reducible refine BF.cpow_of ?_ ?_ ?_ ?_) <;> omega) | ((with_reducible refine BF.cmul_of ?_ ?_ ?_ ?_) <;> omega) | ((with_reducible refine BF.cdiv_of ?_ ?_) <;> omega) | (show (0 : Int) < _; omega)))) | ((with_reducible apply VF.y_rng1b); omega; omega) | ((with_reducible apply VF.y_lenO); (with_unfolding_all rfl)) | ((with_reducible apply VF.y_lenD); (with_unfolding_all rfl)) | ((with_reducible apply VF.y_ixVO); (with_unfolding_all rfl)) | ((with_reducible apply VF.y_ixVL); (with_unfolding_all rfl)) | ((with_reducible apply VF.y_app); (with_unfolding_all rfl)) | ((with_reducible apply VF.y_ins); (with_unfolding_all rfl)) | ((with_reducible apply VF.y_setI1); (with_unfolding_all rfl)) | ((with_reducible apply VF.y_fld2); (assumption); (with_unfolding_all rfl)) | ((with_reducible apply VF.y_noOwn); (with_unfolding_all rfl)) | ((with_reducible apply VF.y_wipe); (with_unfolding_all rfl)) | ((with_reducible apply VF.y_acc); (assumption)) | ((with_reducible apply VF.y_tru1); (with_unfolding_all rfl))) | ((with_reducible first | refine' VF.y_iseq' ?_ | refine' VF.y_seqL ?_ | refine' VF.y_seqT ?_ | refine' VF.y_enT ?_ | refine' VF.y_tupZ ?_ | refine' VF.y_lsI ?_ | refine' VF.y_lsT ?_ | refine' VF.y_join ?_ | refine' VF.y_fs ?_ | refine' VF.y_revL ?_ | refine' VF.y_lr1 ?_ | refine' VF.y_lrO ?_ | refine' VF.y_tix ?_ | refine' VF.y_i_non_int ?_ | refine' VF.y_i_non_bool ?_ | refine' VF.y_i_non_str ?_ | refine' VF.y_i_non_list ?_ | refine' VF.y_i_non_tuple ?_ | refine' VF.y_iLT_non ?_ | refine' VF.y_i_bl_int ?_ | refine' VF.y_i_bl_bool ?_ | refine' VF.y_i_bl_str ?_ | refine' VF.y_i_bl_list ?_ | refine' VF.y_i_bl_tuple ?_ | refine' VF.y_iLT_bl ?_ | refine' VF.y_i_int_int ?_ | refine' VF.y_i_int_bool ?_ | refine' VF.y_i_int_str ?_ | refine' VF.y_i_int_list ?_ | refine' VF.y_i_int_tuple ?_ | refine' VF.y_iLT_int ?_ | refine' VF.y_i_str_int ?_ | refine' VF.y_i_str_bool ?_ | refine' VF.y_i_str_str ?_ | refine' VF.y_i_str_list ?_ | refine' VF.y_i_str_tuple ?_ | refine' VF.y_iLT_str ?_ | refine' VF.y_i_lst_int ?_ | refine' VF.y_i_lst_bool ?_ | refine' VF.y_i_lst_str ?_ | refine' VF.y_i_lst_list ?_ | refine' VF.y_i_lst_tuple ?_ | refine' VF.y_iLT_lst ?_ | refine' VF.y_i_tup_int ?_ | refine' VF.y_i_tup_bool ?_ | refine' VF.y_i_tup_str ?_ | refine' VF.y_i_tup_list ?_ | refine' VF.y_i_tup_tuple ?_ | refine' VF.y_iLT_tup ?_)) | ((with_reducible first | refine' VF.y_n_non ?_ | refine' VF.y_n_bl ?_ | refine' VF.y_n_int ?_ | refine' VF.y_n_str ?_ | refine' VF.y_n_lst ?_ | refine' VF.y_n_tup ?_ | refine' VF.y_zipT ?_ | refine' VF.y_opV ?_ | refine' VF.y_rng2 ?_)) | (first | ((with_reducible apply VF.y_rng2b); omega; omega; omega; omega) | ((with_reducible apply VF.y_opV2); (with_unfolding_all rfl))) | (first | with_reducible refine' BF.x_iteT (by with_unfolding_all rfl) ?_ | with_reducible refine' BF.x_iteF (by with_unfolding_all rfl) ?_ | with_reducible refine' BF.x_iteT (decide_eq_true rfl) ?_)))
local macro_rules | `(tactic| walk_at "v5") => `(tactic| first | ((with_reducible apply VF.y_rng2b); omega; omega; omega; omega) | ((with_reducible apply VF.y_opV2); (with_unfolding_all rfl)))
/-! ## The law's _law_like: at one and the same plain value it is True -/
namespace BF
open PySem PySem.Spec PyProof.Rows L2 VF
def sLike (k : Nat) : DSp := fun ds n Q _ => ∃ d, ds = [d, d] ∧ Pz k d ∧ Q (.bl true) n
section
variable {P : Program} {w : World} {K : PySem.W.Frag} {mg : Str → Option Value} {base : Heap}
theorem sc__law_like : FnScope ["_law_found", "_law_due", "_law_a", "_law_b"] ["_law_found", "_law_due"] (defScope s__law_like) := ⟨rfl, rfl, rfl, by decide +kernel, rfl, by decide +kernel, by decide +kernel⟩
theorem like_step (T : TT K mg) {k : Nat} {sp' : DSp} (G : FnOk P w K mg base (L2.CX P w) k (He.ga K "_law_like") (fdOf K ("_law_like", none)) ["_law_found", "_law_due"] (liftSp K (Cs K) sp')) (hG : ∀ m, k = m + 1 → sp' = sLike m) :
    FnOk P w K mg base (L2.CX P w) (k + 1) (He.ga K "_law_like") (fdOf K ("_law_like", none)) ["_law_found", "_law_due"] (liftSp K (Cs K) (sLike k)) := by
  refine v_ok (F__law_like T) sc__law_like (by decide) (by decide) ?_ (fun cdv A outer s H W ds n Q' hC hE hr h => ⟨_, (vss_cons (vs_if (vt_val (ve_cb (pe_callB (call_isiS K) (by rfl) (T.free "isinstance" rfl) boot_isinstance (va_cons (ve_var (pv 1)) (va_cons (ve_tup (va_cons (ve_ty (pe_bltn (v := .ty "list") (by rfl) (T.free "list" rfl) boot_list rfl)) (va_cons (ve_ty (pe_bltn (v := .ty "tuple") (by rfl) (T.free "tuple" rfl) boot_tuple rfl)) va_nil))) va_nil))) d_isiT)) (vss_cons (vs_if (PW.pt (vw_or (vt_cmp (op_neU K hr.units) d_ne (ve_cb (pe_callB (call_isiK' K) (by rfl) (T.free "isinstance" rfl) boot_isinstance (va_cons (ve_var (pv 0)) (va_cons (ve_ty (pe_bltn (v := .ty "list") (by rfl) (T.free "list" rfl) boot_list rfl)) va_nil))) d_isi) (ve_cb (pe_callB (call_isiK' K) (by rfl) (T.free "isinstance" rfl) boot_isinstance (va_cons (ve_var (pv 1)) (va_cons (ve_ty (pe_bltn (v := .ty "list") (by rfl) (T.free "list" rfl) boot_list rfl)) va_nil))) d_isi) (nomark _)) (vw_or1 (vt_cmp (op_neU K hr.units) d_ne (ve_cb (pe_callB (call_isiK' K) (by rfl) (T.free "isinstance" rfl) boot_isinstance (va_cons (ve_var (pv 0)) (va_cons (ve_ty (pe_bltn (v := .ty "tuple") (by rfl) (T.free "tuple" rfl) boot_tuple rfl)) va_nil))) d_isi) (ve_cb (pe_callB (call_isiK' K) (by rfl) (T.free "isinstance" rfl) boot_isinstance (va_cons (ve_var (pv 1)) (va_cons (ve_ty (pe_bltn (v := .ty "tuple") (by rfl) (T.free "tuple" rfl) boot_tuple rfl)) va_nil))) d_isi) (nomark _))))) (vss_one (vs_ret (ps_ret (ve_bl pe_bl)))) vss_nil)
  (vss_one (vs_ret (ps_ret (ve_and (ve_cmp (op_eqU K hr.units) d_eq (ve_cb (pe_callB (call_lenK K) (by rfl) (T.free "len" rfl) boot_len (va_cons (ve_var (pv 0)) va_nil)) d_len) (ve_cb (pe_callB (call_lenK K) (by rfl) (T.free "len" rfl) boot_len (va_cons (ve_var (pv 1)) va_nil)) d_len) (nomark _)) (pe_one (ve_cb (pe_callB (cr_allK K) (by rfl) (T.free "all" rfl) boot_all (va_cons (ve_ofO (vo_lc (pe_lc (own := [("_law_a", 2), ("_law_b", 3)]) rfl sc__law_like.nd (vi_zip (RZ.pi_zipA (by rfl) (T.free "zip" rfl) (va_cons (ve_var (pv 0)) (va_cons (ve_var (pv 1)) va_nil)))) (blkOk_by (N := ["_law_found", "_law_due", "_law_a", "_law_b"]) (sc := defScope s__law_like) (by decide +kernel)) (fun _ _ _ _ _ => (vg_tup (m := 2) rfl rfl (vgs_cons (vg_name (pg_name (i := 2) sc__law_like.nd rfl (Or.inl rfl))) (vgs_cons (vg_name (pg_name (i := 3) sc__law_like.nd rfl (Or.inl rfl))) vgs_nil)))) (fun _ _ _ _ _ => vts_nil) (fun _ _ _ _ _ => (ve_call hC elink0 (pe_call G hr (by rfl) (T.glo "_law_like" rfl) (F__law_like T).kp (B__law_like T) .nil passL (va_cons (ve_var (pv 2)) (va_cons (ve_var (pv 3)) va_nil))) (fun _ _ _ => .nil)))))) va_nil)) d_all))))))) vss_nil)
  (vss_cons (vs_if (PW.pt (vw_or (vt_cmp op_isNX d_is (ve_var (pv 1)) (ve_non pe_non) (nomark _)) (vw_or1 (vt_cmp op_isNX d_is (ve_var (pv 0)) (ve_non pe_non) (nomark _))))) (vss_one (vs_ret (ps_ret (ve_and (ve_cmp op_isNX d_is (ve_var (pv 1)) (ve_non pe_non) (nomark _)) (pe_one (ve_cmp op_isNX d_is (ve_var (pv 0)) (ve_non pe_non) (nomark _))))))) vss_nil)
  (vss_cons (vs_if (PW.pt (vw_or (vt_val (ve_cb (pe_callB (call_isiS K) (by rfl) (T.free "isinstance" rfl) boot_isinstance (va_cons (ve_var (pv 0)) (va_cons (ve_tup (va_cons (ve_ty (pe_bltn (v := .ty "list") (by rfl) (T.free "list" rfl) boot_list rfl)) (va_cons (ve_ty (pe_bltn (v := .ty "tuple") (by rfl) (T.free "tuple" rfl) boot_tuple rfl)) va_nil))) va_nil))) d_isiT)) (vw_or1 (vt_cmp (op_neU K hr.units) d_ne (ve_cb (pe_callB (call_isiK' K) (by rfl) (T.free "isinstance" rfl) boot_isinstance (va_cons (ve_var (pv 0)) (va_cons (ve_ty (pe_bltn (v := .ty "bool") (by rfl) (T.free "bool" rfl) boot_bool rfl)) va_nil))) d_isi) (ve_cb (pe_callB (call_isiK' K) (by rfl) (T.free "isinstance" rfl) boot_isinstance (va_cons (ve_var (pv 1)) (va_cons (ve_ty (pe_bltn (v := .ty "bool") (by rfl) (T.free "bool" rfl) boot_bool rfl)) va_nil))) d_isi) (nomark _))))) (vss_one (vs_ret (ps_ret (ve_bl pe_bl)))) vss_nil)
  (vss_cons (vs_if (PW.pt (vw_or (vt_cmp (op_neU K hr.units) d_ne (ve_cb (pe_callB (call_isiK' K) (by rfl) (T.free "isinstance" rfl) boot_isinstance (va_cons (ve_var (pv 0)) (va_cons (ve_ty (pe_bltn (v := .ty "str") (by rfl) (T.free "str" rfl) boot_str rfl)) va_nil))) d_isi) (ve_cb (pe_callB (call_isiK' K) (by rfl) (T.free "isinstance" rfl) boot_isinstance (va_cons (ve_var (pv 1)) (va_cons (ve_ty (pe_bltn (v := .ty "str") (by rfl) (T.free "str" rfl) boot_str rfl)) va_nil))) d_isi) (nomark _)) (vw_or1 (vt_cmp (op_neU K hr.units) d_ne (ve_cb (pe_callB (call_isiK' K) (by rfl) (T.free "isinstance" rfl) boot_isinstance (va_cons (ve_var (pv 0)) (va_cons (ve_ty (pe_bltn (v := .ty "int") (by rfl) (T.free "int" rfl) boot_int rfl)) va_nil))) d_isi) (ve_cb (pe_callB (call_isiK' K) (by rfl) (T.free "isinstance" rfl) boot_isinstance (va_cons (ve_var (pv 1)) (va_cons (ve_ty (pe_bltn (v := .ty "int") (by rfl) (T.free "int" rfl) boot_int rfl)) va_nil))) d_isi) (nomark _))))) (vss_one (vs_ret (ps_ret (ve_bl pe_bl)))) vss_nil)
  (vss_one (vs_ret (ps_ret (ve_cmp (op_eqU K hr.units) d_eq (ve_var (pv 0)) (ve_var (pv 1)) (nomark _))))))))), ?_⟩)
  · rintro ds n Q E ⟨d, rfl, _⟩; rfl
  · obtain ⟨d, rfl, hp, hq⟩ := h
    obtain ⟨x, ex, sx⟩ := hp.1
    walk_at "vin"
    cases d with
    | non =>
      walk_at "vx"
      exact hq
    | bl b =>
      walk_at "vx"
      simpa using hq
    | int i =>
      walk_at "vx"
      simpa using hq
    | str z =>
      walk_at "vx"
      simpa using hq
    | lst ds =>
      cases k with
      | zero => exact hp.1.no_lst.elim
      | succ k =>
        cases hG k rfl
        have hl := hp.len_lst
        walk_at "vx"
        refine VF.y_lcA ds (fun d => .tup [d, d]) (fun _ => .bl true) VF.zip_self hl (fun j d acc R hj hacc hR => ?_) ?_
        · walk_at "vx"
          refine ⟨d, rfl, hp.of_lst d (List.mem_of_getElem? hj), ?_⟩
          walk_at "vx"
          exact hR
        · walk_at "vx"
          refine y_allM (p := fun _ => true) ?_
          walk_at "vx"
          rw [VF.all_true]
          exact hq
    | tup ds =>
      cases k with
      | zero => exact hp.1.no_tup.elim
      | succ k =>
        cases hG k rfl
        have hl := hp.len_tup
        walk_at "vx"
        refine VF.y_lcA ds (fun d => .tup [d, d]) (fun _ => .bl true) VF.zip_self hl (fun j d acc R hj hacc hR => ?_) ?_
        · walk_at "vx"
          refine ⟨d, rfl, hp.of_tup d (List.mem_of_getElem? hj), ?_⟩
          walk_at "vx"
          exact hR
        · walk_at "vx"
          refine y_allM (p := fun _ => true) ?_
          walk_at "vx"
          rw [VF.all_true]
          exact hq
    | _ => cases ex
theorem v__law_like (T : TT K mg) : ∀ k, FnOk P w K mg base (L2.CX P w) (k + 1) (He.ga K "_law_like") (fdOf K ("_law_like", none)) ["_law_found", "_law_due"] (liftSp K (Cs K) (sLike k))
  | 0 => like_step T (sp' := fun _ _ _ _ => False) (fnOk_false.imp fun vs H Q E h => by obtain ⟨_, _, _, _, _, _, _, _, _, _, _, _, h, _⟩ := h; exact h) nofun
  | k + 1 => like_step T (v__law_like T k) fun m e => by cases e; rfl
theorem y_like {k : Nat} {d : VF.DV} {n : Int} {Q : VF.DV → Int → Prop} {E : XV} (h : Pz k d) (q : Q (.bl true) n) : sLike k ([d, d] ++ []) n Q E := ⟨d, rfl, h, q⟩
end
end BF
/-! ## The law's drawn reads -/
namespace BF
open PySem PySem.Spec PyProof.Rows L2 VF
def rP (r : Int × Int) : PyData := .tuple [.int r.1, .int r.2]
theorem toPy_rD (r : Int × Int) : toPy (rD r) = some (rP r) := rfl
theorem toPyL_rD : ∀ {rs : List (Int × Int)}, toPyL (rs.map rD) = some (rs.map rP)
  | [] => rfl
  | r :: rs => by
    rw [List.map_cons]
    simp only [toPyL, toPy_rD, toPyL_rD (rs := rs)]
    rfl
theorem eqv_rP {a b : Int × Int} : PyData.eqv (rP a) (rP b) = decide (a = b) := by
  obtain ⟨a1, a2⟩ := a
  obtain ⟨b1, b2⟩ := b
  simp only [rP, PyData.eqv, PyData.eqvAll]
  by_cases h1 : a1 = b1
  · by_cases h2 : a2 = b2
    · subst h1; subst h2; simp
    · simp [h1, h2]
  · simp [h1]
theorem any_rP {rs : List (Int × Int)} {r : Int × Int} : ((rs.map rP).any fun z => PyData.eqv z (rP r)) = decide (r ∈ rs) := by
  induction rs with
  | nil => rfl
  | cons x rs ih =>
    rw [List.map_cons, List.any_cons, ih, eqv_rP]
    by_cases h : x = r
    · subst h; simp
    · have : r ≠ x := fun e => h e.symm
      simp [h, this]
theorem sh_rP {r : Int × Int} : Sh 1 (rP r) := Sh.tuple fun x hx => by
  rcases List.mem_cons.mp hx with e | hx
  · subst e; exact Sh.int
  · rw [List.mem_singleton.mp hx]; exact Sh.int
theorem sh_rPs {rs : List (Int × Int)} : Sh 2 (.list (rs.map rP)) := Sh.list fun x hx => by
  obtain ⟨r, _, rfl⟩ := List.mem_map.mp hx
  exact sh_rP
theorem y_inR {neg : Bool} {rs : List (Int × Int)} {r : Int × Int} {P : DP} (k : P (.bl (if neg then !decide (r ∈ rs) else decide (r ∈ rs)))) : wIn neg (rD r) (.lst (rs.map rD)) P :=
  VF.y_inD (x := rP r) (ys := rs.map rP) (toPy_rD r) (by simp only [toPy, toPyL_rD]; rfl) (sh_rP.ok (by decide)) (sh_rPs.ok (by decide)) (by rw [any_rP]; exact k)
/-- a read of another track -/
def RdOk (m t : Int) (r : Int × Int) : Prop := 0 ≤ r.1 ∧ r.1 ≤ m - 1 ∧ r.1 ≠ t ∧ -3 ≤ r.2 ∧ r.2 ≤ 3
def sRd : DSp := fun ds n Q _ => ∃ z xs t, ds = [.bag, z, .int t, .int 3, .int 3] ∧ SqD z (VF.iD xs) ∧ SzOk xs ∧ n ≤ 999000 ∧ ∀ (rs : List (Int × Int)) n', rs.length ≤ 3 → (∀ r ∈ rs, RdOk xs.length t r) → rs.Nodup → n' ≤ n + 4 → Q (.tup (rs.map rD)) n'
section
variable {P : Program} {w : World} {K : PySem.W.Frag} {mg : Str → Option Value} {base : Heap}
theorem sc__law_reads : FnScope ["_law_bag_here", "_law_sizes_here", "_law_track", "_law_far", "_law_most_reads", "_law_spots", "_law_k", "_law_found", "_law_lap", "_law_spot", "_law_gap"] ["_law_bag_here", "_law_sizes_here", "_law_track", "_law_far", "_law_most_reads"] (defScope s__law_reads) := ⟨rfl, rfl, rfl, by decide +kernel, rfl, by decide +kernel, by decide +kernel⟩
theorem v__law_reads (T : TT K mg) : FnOk P w K mg base (L2.CX P w) 2 (He.ga K "_law_reads") (fdOf K ("_law_reads", none)) ["_law_bag_here", "_law_sizes_here", "_law_track", "_law_far", "_law_most_reads"] (liftSp K (Cs K) sRd) := by
  refine v_ok (F__law_reads T) sc__law_reads (by decide) (by decide) ?_ (fun cdv A outer s H W ds n Q' hC hE hr h => ⟨_, (vss_cons (vs_set (ps_set (i := 5) sc__law_reads.nd rfl (Or.inl rfl) (ve_lst va_nil)))
  (vss_cons (vs_for (passes_of rfl) rfl (vi_rng1 (pi_range1 (by rfl) (T.free "range" rfl) (va_cons (ve_cb (pe_callB (call_lenK K) (by rfl) (T.free "len" rfl) boot_len (va_cons (ve_var (pv 1)) va_nil)) d_len) va_nil))) (vg_name (pg_name (i := 6) sc__law_reads.nd rfl (Or.inr rfl))) (vss_one (vs_set (ps_set (i := 5) sc__law_reads.nd rfl (Or.inl rfl) (ve_op (op_addD K) d_add (ve_var (pv 5)) (ve_if (vt_cmp (op_neU K hr.units) d_ne (ve_var (pv 6)) (ve_var (pv 2)) (nomark _)) (ve_ofO (vo_lc (pe_lc (own := [("_law_gap", 10)]) rfl sc__law_reads.nd (vi_rng2 (pi_range2 (by rfl) (T.free "range" rfl) (va_cons (ve_op op_sub d_I0 (ve_int pe_int) (ve_var (pv 3))) (va_cons (ve_op (op_addD K) d_add (ve_var (pv 3)) (ve_int pe_int)) va_nil)))) (blkOk_by (N := ["_law_bag_here", "_law_sizes_here", "_law_track", "_law_far", "_law_most_reads", "_law_spots", "_law_k", "_law_found", "_law_lap", "_law_spot", "_law_gap"]) (sc := defScope s__law_reads) (by decide +kernel)) (fun _ _ _ _ _ => (vg_name (pg_name (i := 10) sc__law_reads.nd rfl (Or.inl rfl)))) (fun _ _ _ _ _ => vts_nil) (fun _ _ _ _ _ => (ve_tup (va_cons (ve_var (pv 6)) (va_cons (ve_var (pv 10)) va_nil))))))) (ve_lst va_nil)))))))
  (vss_cons (vs_setO (ps_set (i := 7) sc__law_reads.nd rfl (Or.inl rfl) (vo_lst va_nil)))
  (vss_cons (vs_for (passes_of rfl) rfl (vi_rng1 (pi_range1 (by rfl) (T.free "range" rfl) (va_cons (ve_call hC hE (pe_call (v__law_draw T) (hr.mono (by decide)) (by rfl) (T.glo "_law_draw" rfl) (F__law_draw T).kp (B__law_draw T) .nil pass0 (va_cons (ve_var (pv 0)) (va_cons (ve_op (op_addD K) d_add (ve_var (pv 4)) (ve_int pe_int)) va_nil))) (fun _ _ _ => .nil)) va_nil))) (vg_name (pg_name (i := 8) sc__law_reads.nd rfl (Or.inl rfl))) (vss_cons (vs_set (ps_set (i := 9) sc__law_reads.nd rfl (Or.inl rfl) (ve_if (vt_cmp (op_neU K hr.units) d_ne (ve_var (pv 5)) (ve_lst va_nil) (nomark _)) (ve_ix (ix_LTK K) d_ix (ve_var (pv 5)) (ve_call hC hE (pe_call (v__law_draw T) (hr.mono (by decide)) (by rfl) (T.glo "_law_draw" rfl) (F__law_draw T).kp (B__law_draw T) .nil pass0 (va_cons (ve_var (pv 0)) (va_cons (ve_cb (pe_callB (call_lenK K) (by rfl) (T.free "len" rfl) boot_len (va_cons (ve_var (pv 5)) va_nil)) d_len) va_nil))) (fun _ _ _ => .nil)) (fun _ _ => rfl)) (ve_non pe_non))))
  (vss_one (vs_if (PW.pt (vw_and (vt_cmp op_notNX d_isnt (ve_var (pv 9)) (ve_non pe_non) (nomark _)) (vw_and1 (vt_opV (op_notInU K (by have := hr.un; first | omega | (show (A.deeper _).units + 65 < cLine; omega))) d_notin (ve_var (pv 9)) (pv 7) (by with_unfolding_all rfl))))) (vss_one (vs_app (ps_expr (pe_bm PySem.F.plainAttrs_list PySem.F.slot_list_append PySem.F.type_list_append mt_append (pv 7) (va_cons (ve_var (pv 9)) va_nil))))) vss_nil))))
  (vss_one (vs_ret (ps_ret (ve_cb (pe_callTy (call_tupLTK K) (by rfl) (T.free "tuple" rfl) boot_tuple (va_cons (ve_var (pv 7)) va_nil)) d_tuple)))))))), ?_⟩)
  · rintro ds n Q E ⟨z, xs, t, rfl, _⟩; rfl
  · obtain ⟨z, xs, t, rfl, hz, hs, hn, hq⟩ := h
    have hl := hs.2
    walk_at "vin"
    walk_at "vx"
    refine y_lenS (sq_of hz) ?_
    rw [List.length_map]
    walk_at "vx"
    refine VF.y_loop (fun i τ n' => n' = n ∧ ∃ (ss : List (Int × Int)) (o : Option SV), τ = [some (.d .bag), some (.d z), some (.d (.int t)), some (.d (.int 3)), some (.d (.int 3)), some (.d (.lst (ss.map rD))), o, none, none, none, none] ∧ ss.length ≤ 7 * i ∧ ∀ r ∈ ss, RdOk xs.length t r) ⟨rfl, [], _, rfl, Nat.zero_le _, nofun⟩ ?_ ?_
    · rintro i d τ n' hi ⟨rfl, ss, o, rfl, sl, sr⟩
      have hi2 : i < xs.length := by
        have := (List.getElem?_eq_some_iff.mp hi).1
        rw [rngD_len] at this
        omega
      have hd : d = .int (i : Nat) := by
        have e : (rngD 0 (xs.length : Int).toNat)[i]? = some (.int (0 + (i : Int))) := by
          rw [rngD_map, List.getElem?_map, List.getElem?_range (by omega)]; rfl
        rw [e] at hi
        have := Option.some.inj hi
        rw [← this]; simp
      subst hd
      walk_at "vx"
      by_cases ht : (i : Int) = t
      · rw [decide_eq_true ht]
        walk_at "vx"
        refine VF.y_addL (by simp; omega) ?_
        walk_at "vx"
        refine ⟨rfl, ss, _, by rw [List.append_nil], by omega, sr⟩
      · rw [decide_eq_false ht]
        walk_at "vx"
        refine VF.y_lcA (List.range 7) (fun (k : Nat) => VF.DV.int (0 - 3 + (k : Int))) (fun (k : Nat) => rD ((i : Int), (0 - 3 + (k : Int)))) rfl (by simp) (fun j k acc R hj hacc hR => ?_) ?_
        · walk_at "vx"
          exact hR
        · walk_at "vx"
          refine VF.y_addL (by simp; omega) ?_
          walk_at "vx"
          refine ⟨rfl, ss ++ (List.range 7).map fun (k : Nat) => ((i : Int), (0 - 3 + (k : Int))), _, by rw [List.map_append, List.map_map]; rfl, by simp; omega, fun r hr => ?_⟩
          rcases List.mem_append.mp hr with hr | hr
          · exact sr r hr
          · obtain ⟨k, hk, rfl⟩ := List.mem_map.mp hr
            have := List.mem_range.mp hk
            exact ⟨by omega, by omega, ht, by omega, by omega⟩
    · rintro τ n' ⟨rfl, ss, o, rfl, sl, sr⟩
      rw [rngD_len] at sl
      walk_at "vx"
      refine y_draw (by omega) (by omega) (by omega) fun m m0 m1 => ?_
      walk_at "vx"
      refine VF.y_loop (fun i τ n'' => n'' ≤ n' + 1 + i ∧ ∃ (rs : List (Int × Int)) (o1 o2 : Option SV), τ = [some (.d .bag), some (.d z), some (.d (.int t)), some (.d (.int 3)), some (.d (.int 3)), some (.d (.lst (ss.map rD))), o, some (.own (rs.map rD)), o1, o2, none] ∧ rs.length ≤ i ∧ (∀ r ∈ rs, RdOk xs.length t r) ∧ rs.Nodup) ⟨by omega, [], _, _, rfl, Nat.zero_le _, nofun, List.nodup_nil⟩ ?_ ?_
      · rintro i d τ n'' hi ⟨hn2, rs, o1, o2, rfl, rl, rr, rn⟩
        have hi2 : i < 3 := by
          have := (List.getElem?_eq_some_iff.mp hi).1
          rw [rngD_len] at this
          omega
        walk_at "vx"
        refine VF.y_neD (x := .list (ss.map rP)) (y := .list []) (b := ss.isEmpty) (by simp only [toPy, toPyL_rD]; rfl) rfl (sh_rPs.ok (by decide)) (by decide) (by cases ss <;> rfl) ?_
        walk_at "vx"
        cases ss with
        | nil =>
          walk_at "vx"
          exact ⟨by omega, rs, _, _, rfl, by omega, rr, rn⟩
        | cons s0 ss =>
          walk_at "vx"
          refine y_draw (by omega) (by rw [List.length_map, List.length_cons]; omega) (by rw [List.length_map]; omega) fun j j0 j1 => ?_
          rw [List.length_map] at j1
          have hj : j.toNat < (s0 :: ss).length := by omega
          have hm : (s0 :: ss)[j.toNat] ∈ s0 :: ss := List.getElem_mem _
          have ha : atI ((s0 :: ss).map rD) j = some (rD (s0 :: ss)[j.toNat]) := by
            have q := atI_nat (xs := (s0 :: ss).map rD) (j := j.toNat) (v := rD (s0 :: ss)[j.toNat]) (by rw [List.getElem?_map, List.getElem?_eq_getElem hj]; rfl)
            rwa [Int.toNat_of_nonneg j0] at q
          generalize (s0 :: ss)[j.toNat] = r at hm ha
          refine VF.y_ixL ha ?_
          walk_at "vx"
          refine VF.y_n_tup ?_
          walk_at "vx"
          refine y_inR ?_
          walk_at "vx"
          by_cases hx : r ∈ rs
          · rw [decide_eq_true hx]
            walk_at "vx"
            exact ⟨by omega, rs, _, _, rfl, by omega, rr, rn⟩
          · rw [decide_eq_false hx]
            walk_at "vx"
            refine VF.y_app2 rfl (by rw [List.length_map]; omega) ?_
            walk_at "vx"
            refine ⟨by omega, rs ++ [r], _, _, by rw [List.map_append]; rfl, by rw [List.length_append]; simp only [List.length_singleton]; omega, fun x hx2 => ?_, ?_⟩
            · rcases List.mem_append.mp hx2 with h | h
              · exact rr x h
              · rw [List.mem_singleton.mp h]; exact sr r hm
            · refine List.nodup_append.mpr ⟨rn, List.pairwise_singleton _ r, fun a ha b hb e => ?_⟩
              rw [List.mem_singleton.mp hb] at e
              exact hx (e ▸ ha)
      · rintro τ n'' ⟨hn2, rs, o1, o2, rfl, rl, rr, rn⟩
        rw [rngD_len] at rl hn2
        walk_at "vx"
        exact hq rs n'' (by omega) rr rn (by omega)
theorem y_rds {z : VF.DV} {xs : List Int} {t n : Int} {Q : VF.DV → Int → Prop} {E : XV} (hz : SqD z (VF.iD xs)) (hs : SzOk xs) (hn : n ≤ 999000) (q : ∀ (rs : List (Int × Int)) n', rs.length ≤ 3 → (∀ r ∈ rs, RdOk xs.length t r) → rs.Nodup → n' ≤ n + 4 → Q (.tup (rs.map rD)) n') : sRd ([.bag, z, .int t, .int 3, .int 3] ++ []) n Q E := ⟨z, xs, t, rfl, hz, hs, hn, q⟩
end
end BF
/-! ## The law's drawn swap, drawn deed -/
namespace BF
open PySem PySem.Spec PyProof.Rows L2 VF
theorem swp_get {ns : List Int} {a b : Nat} {x y : Int} (ha : ns[a]? = some x) (hb : ns[b]? = some y) (i : Nat) : ((ns.set a y).set b x)[i]? = ns[if i = b then a else if i = a then b else i]? := by
  have la := (List.getElem?_eq_some_iff.mp ha).1
  have lb := (List.getElem?_eq_some_iff.mp hb).1
  by_cases h1 : i = b
  · subst h1
    rw [if_pos rfl, ha, List.getElem?_set_self (by rw [List.length_set]; exact lb)]
  · rw [if_neg h1, List.getElem?_set_ne (fun e => h1 e.symm)]
    by_cases h2 : i = a
    · subst h2
      rw [if_pos rfl, hb, List.getElem?_set_self la]
    · rw [if_neg h2, List.getElem?_set_ne (fun e => h2 e.symm)]
theorem swp_perm {ns : List Int} {a b : Nat} {x y : Int} (ha : ns[a]? = some x) (hb : ns[b]? = some y) (h : PermN ns) : PermN ((ns.set a y).set b x) := by
  have hl : ((ns.set a y).set b x).length = ns.length := by simp
  refine ⟨fun v hv => ?_, ?_⟩
  · rw [hl]
    obtain ⟨i, hi⟩ := List.getElem?_of_mem hv
    rw [swp_get ha hb] at hi
    exact h.1 v (List.mem_of_getElem? hi)
  · refine List.pairwise_iff_getElem.mpr fun i j hi hj hij e => ?_
    have e1 := List.getElem?_eq_getElem hi
    have e2 := List.getElem?_eq_getElem hj
    rw [swp_get ha hb] at e1 e2
    rw [← e] at e2
    have q := nd_idx h.2 e1 e2
    by_cases c1 : i = b
    · subst c1
      rw [if_pos rfl, if_neg (by omega)] at q
      split at q <;> omega
    · rw [if_neg c1] at q
      by_cases c2 : i = a
      · subst c2
        rw [if_pos rfl] at q
        by_cases c3 : j = b
        · rw [if_pos c3] at q; omega
        · rw [if_neg c3, if_neg (by omega)] at q; omega
      · rw [if_neg c2] at q
        by_cases c3 : j = b
        · rw [if_pos c3] at q; omega
        · rw [if_neg c3] at q
          by_cases c4 : j = a
          · rw [if_pos c4] at q; omega
          · rw [if_neg c4] at q; omega
theorem perm_range {k : Nat} : PermN ((List.range k).map fun (i : Nat) => (i : Int)) := by
  refine ⟨fun v hv => ?_, ?_⟩
  · obtain ⟨i, hi, rfl⟩ := List.mem_map.mp hv
    have := List.mem_range.mp hi
    simp only [List.length_map, List.length_range]
    omega
  · exact List.pairwise_map.mpr (List.Pairwise.imp (fun {a b} h e => h (by omega)) List.nodup_range)
def sSwp : DSp := fun ds n Q _ => ∃ p : Int, ds = [.bag, .int p] ∧ 1 ≤ p ∧ p ≤ 64 ∧ n ≤ 999000 ∧ ∀ (ns : List Int) n', (ns.length : Int) = p → PermN ns → n' ≤ n + 12 → Q (.tup [.str "swap", .tupz (VF.iD ns)]) n'
section
variable {P : Program} {w : World} {K : PySem.W.Frag} {mg : Str → Option Value} {base : Heap}
theorem sc__law_swap : FnScope ["_law_bag_here", "_law_many", "_law_table", "_law_k", "_law_a", "_law_b", "_law_kept"] ["_law_bag_here", "_law_many"] (defScope s__law_swap) := ⟨rfl, rfl, rfl, by decide +kernel, rfl, by decide +kernel, by decide +kernel⟩
theorem v__law_swap (T : TT K mg) : FnOk P w K mg base (L2.CX P w) 2 (He.ga K "_law_swap") (fdOf K ("_law_swap", none)) ["_law_bag_here", "_law_many"] (liftSp K (Cs K) sSwp) := by
  refine v_ok (F__law_swap T) sc__law_swap (by decide) (by decide) ?_ (fun cdv A outer s H W ds n Q' hC hE hr h => ⟨_, (vss_cons (vs_setO (ps_set (i := 2) sc__law_swap.nd rfl (Or.inl rfl) (vo_lr1 (pe_listRg rfl (by rfl) (T.free "list" rfl) (prg_1 (by rfl) (T.free "range" rfl) (ve_var (pv 1)))))))
  (vss_cons (vs_for (passes_of rfl) rfl (vi_rng1 (pi_range1 (by rfl) (T.free "range" rfl) (va_cons (ve_cb (pe_callB (call_min2 rfl) (by rfl) (T.free "min" rfl) boot_min (va_cons (ve_var (pv 1)) (va_cons (ve_int pe_int) va_nil))) d_min2) va_nil))) (vg_name (pg_name (i := 3) sc__law_swap.nd rfl (Or.inl rfl))) (vss_cons (vs_par (ps_par (i := 4) (j := 5) rfl sc__law_swap.nd rfl rfl (by decide) rfl rfl (va_cons (ve_call hC hE (pe_call (v__law_draw T) (hr.mono (by decide)) (by rfl) (T.glo "_law_draw" rfl) (F__law_draw T).kp (B__law_draw T) .nil pass0 (va_cons (ve_var (pv 0)) (va_cons (ve_var (pv 1)) va_nil))) (fun _ _ _ => .nil)) (va_cons (ve_call hC hE (pe_call (v__law_draw T) (hr.mono (by decide)) (by rfl) (T.glo "_law_draw" rfl) (F__law_draw T).kp (B__law_draw T) .nil pass0 (va_cons (ve_var (pv 0)) (va_cons (ve_var (pv 1)) va_nil))) (fun _ _ _ => .nil)) va_nil)) rfl))
  (vss_cons (vs_set (ps_set (i := 6) sc__law_swap.nd rfl (Or.inl rfl) (ve_ixV (pe_ix (ix_LTK K) (pv 2) (ve_var (pv 4)) (fun _ _ => rfl)))))
  (vss_cons (vs_setI (ps_asg (ve_ixV (pe_ix (ix_LTK K) (pv 2) (ve_var (pv 5)) (fun _ _ => rfl))) (pg_sub (pv 2) (ve_var (pv 4)) set_list)))
  (vss_one (vs_setI (ps_asg (ve_var (pv 6)) (pg_sub (pv 2) (ve_var (pv 5)) set_list))))))))
  (vss_one (vs_ret (ps_ret (ve_tup (va_cons (ve_str pe_str) (va_cons (ve_cb (pe_callTy (call_tupZK K) (by rfl) (T.free "tuple" rfl) boot_tuple (va_cons (ve_var (pv 2)) va_nil)) d_tupZ) va_nil)))))))), ?_⟩)
  · rintro ds n Q E ⟨p, rfl, _⟩; rfl
  · obtain ⟨p, rfl, p1, p2, hn, hq⟩ := h
    obtain ⟨k, rfl⟩ : ∃ k : Nat, p = k := ⟨p.toNat, by omega⟩
    walk_at "vin"
    walk_at "vx"
    refine ⟨k, rfl, by omega, ?_⟩
    walk_at "vx"
    refine VF.y_loop (fun i τ n' => n' ≤ n + 2 * i ∧ ∃ (ns : List Int) (o3 o4 o5 o6 : Option SV), τ = [some (.d .bag), some (.d (.int (k : Int))), some (.own (VF.iD ns)), o3, o4, o5, o6] ∧ ns.length = k ∧ PermN ns) ⟨by omega, (List.range k).map fun (i : Nat) => (i : Int), none, none, none, none, by rw [rngD_map]; simp [VF.iD, Function.comp_def], by simp, perm_range⟩ ?_ ?_
    · rintro i d τ n' hi ⟨hn2, ns, o3, o4, o5, o6, rfl, hl, pm⟩
      have hi2 : i < 6 := by
        have := (List.getElem?_eq_some_iff.mp hi).1
        rw [rngD_len] at this
        omega
      walk_at "vx"
      refine y_draw (by omega) (by omega) (by omega) fun a a0 a1 => ?_
      walk_at "vx"
      refine y_draw (by omega) (by omega) (by omega) fun b b0 b1 => ?_
      walk_at "vx"
      obtain ⟨x, hx⟩ : ∃ x, ns[a.toNat]? = some x := ⟨_, List.getElem?_eq_getElem (show a.toNat < ns.length by omega)⟩
      obtain ⟨y, hy⟩ : ∃ y, ns[b.toNat]? = some y := ⟨_, List.getElem?_eq_getElem (show b.toNat < ns.length by omega)⟩
      have ax : atI (VF.iD ns) a = some (.int x) := by
        have q := atI_nat (xs := VF.iD ns) (j := a.toNat) (v := .int x) (by rw [List.getElem?_map, hx]; rfl)
        rwa [Int.toNat_of_nonneg a0] at q
      have ay : atI (VF.iD ns) b = some (.int y) := by
        have q := atI_nat (xs := VF.iD ns) (j := b.toNat) (v := .int y) (by rw [List.getElem?_map, hy]; rfl)
        rwa [Int.toNat_of_nonneg b0] at q
      refine ⟨_, _, _, rfl, .inl rfl, ax, ?_⟩
      walk_at "vx"
      refine ⟨_, _, _, rfl, .inl rfl, ay, ?_⟩
      walk_at "vx"
      refine VF.y_setI2 rfl (ixN_of a0 (by rw [List.length_map]; omega)) ?_
      walk_at "vx"
      refine VF.y_setI2 rfl (ixN_of b0 (by rw [List.length_set, List.length_map]; omega)) ?_
      walk_at "vx"
      exact ⟨by omega, (ns.set a.toNat y).set b.toNat x, _, _, _, _, by simp only [VF.iD, List.map_set]; rfl, by simp [hl], swp_perm hx hy pm⟩
    · rintro τ n' ⟨hn2, ns, o3, o4, o5, o6, rfl, hl, pm⟩
      rw [rngD_len] at hn2
      walk_at "vx"
      exact hq ns n' (by omega) pm (by omega)
theorem y_swp {p n : Int} {Q : VF.DV → Int → Prop} {E : XV} (p1 : 1 ≤ p) (p2 : p ≤ 64) (hn : n ≤ 999000) (hq : ∀ (ns : List Int) n', (ns.length : Int) = p → PermN ns → n' ≤ n + 12 → Q (.tup [.str "swap", .tupz (VF.iD ns)]) n') : sSwp ([.bag, .int p] ++ []) n Q E := ⟨p, rfl, p1, p2, hn, hq⟩
end
end BF
/-! ## The law's drawn deed -/
namespace BF
open PySem PySem.Spec PyProof.Rows L2 VF
/-- sizes as they are drawn -/
def SzS (xs : List Int) : Prop := SzOk xs ∧ prod xs ≤ 64 ∧ 1 ≤ xs.length ∧ (xs.length = 1 ∨ ∀ x ∈ xs, x ≤ 9)
theorem prod9 : ∀ {xs : List Int}, (∀ x ∈ xs, 1 ≤ x ∧ x ≤ 9) → 1 ≤ prod xs ∧ prod xs ≤ 9 ^ xs.length
  | [], _ => ⟨by decide, by decide⟩
  | x :: xs, h => by
    obtain ⟨h1, h2⟩ := h x List.mem_cons_self
    obtain ⟨p1, p2⟩ := prod9 (xs := xs) fun y hy => h y (List.mem_cons_of_mem _ hy)
    simp only [prod, List.length_cons]
    constructor
    · have := Int.mul_le_mul h1 p1 (by omega) (by omega)
      simpa using this
    · have := Int.mul_le_mul h2 p2 (by omega) (by omega)
      rw [Int.pow_succ, Int.mul_comm _ (9 : Int)]
      exact this
theorem rs_prod {xs : List Int} {t : Int} {rs : List (Int × Int)} (hs : SzS xs) (h3 : rs.length ≤ 3) (h0 : 0 ≤ t ∧ t ≤ xs.length - 1) (hr : ∀ r ∈ rs, RdOk xs.length t r) : 1 ≤ prod (rs.map fun r => at' xs r.1) ∧ prod (rs.map fun r => at' xs r.1) ≤ 729 := by
  rcases hs.2.2.2 with h | h
  · have e : rs = [] := by
      cases rs with
      | nil => rfl
      | cons r rs =>
        obtain ⟨q1, q2, q3, _⟩ := hr r List.mem_cons_self
        omega
    subst e
    exact ⟨Int.le_refl 1, by show (1 : Int) ≤ 729; decide⟩
  · obtain ⟨p1, p2⟩ := prod9 (xs := rs.map fun r => at' xs r.1) fun v hv => by
      obtain ⟨r, hr2, rfl⟩ := List.mem_map.mp hv
      obtain ⟨q1, q2, _⟩ := hr r hr2
      have hm := getD_mem q1 q2
      exact ⟨(hs.1.1 _ hm).1, h _ hm⟩
    refine ⟨p1, Int.le_trans p2 ?_⟩
    rw [List.length_map]
    have : (9 : Int) ^ rs.length ≤ 9 ^ 3 := by
      have := Nat.pow_le_pow_right (n := 9) (by decide) h3
      exact_mod_cast this
    exact Int.le_trans this (by decide)
def sDd : DSp := fun ds n Q _ => ∃ z xs, ds = [.bag, z, .int 3, .int 3] ∧ SqD z (VF.iD xs) ∧ SzS xs ∧ n ≤ 900000 ∧ ∀ D n', DdOk xs D → n' ≤ n + 740 → Q (dZ D) n'
section
variable {P : Program} {w : World} {K : PySem.W.Frag} {mg : Str → Option Value} {base : Heap}
theorem sc__law_deed : FnScope ["_law_bag_here", "_law_sizes_here", "_law_far", "_law_most_reads", "_law_pick", "_law_track", "_law_reads_here", "_law_many", "_law_pair", "_law_k"] ["_law_bag_here", "_law_sizes_here", "_law_far", "_law_most_reads"] (defScope s__law_deed) := ⟨rfl, rfl, rfl, by decide +kernel, rfl, by decide +kernel, by decide +kernel⟩
theorem v__law_deed (T : TT K mg) : FnOk P w K mg base (L2.CX P w) 3 (He.ga K "_law_deed") (fdOf K ("_law_deed", none)) ["_law_bag_here", "_law_sizes_here", "_law_far", "_law_most_reads"] (liftSp K (Cs K) sDd) := by
  refine v_ok (F__law_deed T) sc__law_deed (by decide) (by decide) ?_ (fun cdv A outer s H W ds n Q' hC hE hr h => ⟨_, (vss_cons (vs_asg (ps_asg (ve_tup (va_cons (ve_call hC hE (pe_call (v__law_draw T) (hr.mono (by decide)) (by rfl) (T.glo "_law_draw" rfl) (F__law_draw T).kp (B__law_draw T) .nil pass0 (va_cons (ve_var (pv 0)) (va_cons (ve_int pe_int) va_nil))) (fun _ _ _ => .nil)) (va_cons (ve_call hC hE (pe_call (v__law_draw T) (hr.mono (by decide)) (by rfl) (T.glo "_law_draw" rfl) (F__law_draw T).kp (B__law_draw T) .nil pass0 (va_cons (ve_var (pv 0)) (va_cons (ve_cb (pe_callB (call_lenK K) (by rfl) (T.free "len" rfl) boot_len (va_cons (ve_var (pv 1)) va_nil)) d_len) va_nil))) (fun _ _ _ => .nil)) va_nil))) (vg_tup (m := 2) rfl rfl (vgs_cons (vg_name (pg_name (i := 4) sc__law_deed.nd rfl (Or.inl rfl))) (vgs_cons (vg_name (pg_name (i := 5) sc__law_deed.nd rfl (Or.inr rfl))) vgs_nil)))))
  (vss_cons (vs_if (vt_cmp (op_eqU K hr.units) d_eq (ve_var (pv 4)) (ve_int pe_int) (nomark _)) (vss_one (vs_ret (ps_ret (ve_call hC hE (pe_call (v__law_swap T) (hr.mono (by decide)) (by rfl) (T.glo "_law_swap" rfl) (F__law_swap T).kp (B__law_swap T) .nil (passes_call (takes_of rfl rfl rfl rfl) (fun _ _ _ _ h => h)) (va_cons (ve_var (pv 0)) (va_cons (ve_call hC hE (pe_call (v__law_product T) (hr.mono (by decide)) (by rfl) (T.glo "_law_product" rfl) (F__law_product T).kp (B__law_product T) .nil (passes_call (takes_of rfl rfl rfl rfl) (fun _ _ _ _ h => h)) (va_cons (ve_var (pv 1)) va_nil)) (fun _ _ _ => .nil)) va_nil))) (fun _ _ _ => .nil))))) vss_nil)
  (vss_cons (vs_if (vt_cmp op_lt d_IB (ve_var (pv 4)) (ve_int pe_int) (nomark _)) (vss_one (vs_ret (ps_ret (ve_tup (va_cons (ve_str pe_str) (va_cons (ve_var (pv 5)) (va_cons (ve_call hC hE (pe_call (v__law_of T) (hr.mono (by decide)) (by rfl) (T.glo "_law_of" rfl) (F__law_of T).kp (B__law_of T) .nil (passes_call (takes_of rfl rfl rfl rfl) (fun _ _ _ _ h => h)) (va_cons (ve_var (pv 0)) (va_cons (ve_lst (va_cons (ve_int pe_int) (va_cons (ve_op op_sub d_I0 (ve_int pe_int) (ve_int pe_int)) (va_cons (ve_op op_sub d_I0 (ve_call hC hE (pe_call (v__law_draw T) (hr.mono (by decide)) (by rfl) (T.glo "_law_draw" rfl) (F__law_draw T).kp (B__law_draw T) .nil pass0 (va_cons (ve_var (pv 0)) (va_cons (ve_op (op_addD K) d_add (ve_op op_mulW d_I (ve_int pe_int) (ve_var (pv 2))) (ve_int pe_int)) va_nil))) (fun _ _ _ => .nil)) (ve_var (pv 2))) va_nil)))) va_nil))) (fun _ _ _ => .nil)) va_nil))))))) vss_nil)
  (vss_cons (vs_set (ps_set (i := 6) sc__law_deed.nd rfl (Or.inl rfl) (ve_call hC hE (pe_call (v__law_reads T) (hr.mono (by decide)) (by rfl) (T.glo "_law_reads" rfl) (F__law_reads T).kp (B__law_reads T) .nil (passes_call (takes_of rfl rfl rfl rfl) (fun _ _ _ _ h => h)) (va_cons (ve_var (pv 0)) (va_cons (ve_var (pv 1)) (va_cons (ve_var (pv 5)) (va_cons (ve_var (pv 2)) (va_cons (ve_var (pv 3)) va_nil)))))) (fun _ _ _ => .nil))))
  (vss_cons (vs_set (ps_set (i := 7) sc__law_deed.nd rfl (Or.inl rfl) (ve_call hC hE (pe_call (v__law_product T) (hr.mono (by decide)) (by rfl) (T.glo "_law_product" rfl) (F__law_product T).kp (B__law_product T) .nil (passes_call (takes_of rfl rfl rfl rfl) (fun _ _ _ _ h => h)) (va_cons (ve_ofO (vo_lc (pe_lc (own := [("_law_pair", 8)]) rfl sc__law_deed.nd (vi_tup rfl (ve_var (pv 6))) (blkOk_by (N := ["_law_bag_here", "_law_sizes_here", "_law_far", "_law_most_reads", "_law_pick", "_law_track", "_law_reads_here", "_law_many", "_law_pair", "_law_k"]) (sc := defScope s__law_deed) (by decide +kernel)) (fun _ _ _ _ _ => (vg_name (pg_name (i := 8) sc__law_deed.nd rfl (Or.inl rfl)))) (fun _ _ _ _ _ => vts_nil) (fun _ _ _ _ _ => (ve_ix (ix_LTK K) d_ix (ve_var (pv 1)) (ve_ix (ix_LTK K) d_ix (ve_var (pv 8)) (ve_int pe_int) (fun _ _ => rfl)) (fun _ _ => rfl)))))) va_nil)) (fun _ _ _ => .nil))))
  (vss_one (vs_ret (ps_ret (ve_tup (va_cons (ve_str pe_str) (va_cons (ve_var (pv 5)) (va_cons (ve_var (pv 6)) (va_cons (ve_cb (pe_callTy (call_tupLTK K) (by rfl) (T.free "tuple" rfl) boot_tuple (va_cons (ve_ofO (vo_lc (pe_lc (own := [("_law_k", 9)]) rfl sc__law_deed.nd (vi_rng1 (pi_range1 (by rfl) (T.free "range" rfl) (va_cons (ve_var (pv 7)) va_nil))) (blkOk_by (N := ["_law_bag_here", "_law_sizes_here", "_law_far", "_law_most_reads", "_law_pick", "_law_track", "_law_reads_here", "_law_many", "_law_pair", "_law_k"]) (sc := defScope s__law_deed) (by decide +kernel)) (fun _ _ _ _ _ => (vg_name (pg_name (i := 9) sc__law_deed.nd rfl (Or.inl rfl)))) (fun _ _ _ _ _ => vts_nil) (fun _ _ _ _ _ => (ve_call hC elink0 (pe_call (v__law_draw T) (hr.mono (by decide)) (by rfl) (T.glo "_law_draw" rfl) (F__law_draw T).kp (B__law_draw T) .nil pass0 (va_cons (ve_var (pv 0)) (va_cons (ve_ix (ix_LTK K) d_ix (ve_var (pv 1)) (ve_var (pv 5)) (fun _ _ => rfl)) va_nil))) (fun _ _ _ => .nil)))))) va_nil)) d_tuple) va_nil))))))))))))), ?_⟩)
  · rintro ds n Q E ⟨z, xs, rfl, _⟩; rfl
  · obtain ⟨z, xs, rfl, hz, hs, hn, hq⟩ := h
    have h1 := hs.2.2.1
    have h6 := hs.1.2
    have pp := prod_small hs.1.1 hs.1.2
    walk_at "vin"
    walk_at "vx"
    refine y_draw (by omega) (by omega) (by omega) fun p p0 p1 => ?_
    walk_at "vx"
    refine y_lenS (sq_of hz) ?_
    rw [List.length_map]
    walk_at "vx"
    refine y_draw (by omega) (by omega) (by omega) fun t t0 t1 => ?_
    walk_at "vx"
    by_cases c1 : p = 0
    · rw [decide_eq_true c1]
      walk_at "vx"
      refine y_count hz hs.1.1 hs.1.2 ?_
      walk_at "vx"
      refine y_swp pp.1 hs.2.1 (by omega) fun ns n' hl pm hn' => ?_
      walk_at "vx"
      exact hq (.sw ns) n' ⟨hl, fun v hv => by rw [← hl]; exact pm.1 v hv, pm.2⟩ (by omega)
    · rw [decide_eq_false c1]
      walk_at "vx"
      by_cases c2 : p < 4
      · rw [decide_eq_true c2]
        walk_at "vx"
        refine y_draw (by omega) (by omega) (by omega) fun m m0 m1 => ?_
        walk_at "vx"
        refine y_of (by omega) (by simp) (by simp) fun i x hx => ?_
        have hx2 : ∃ y : Int, x = .int y ∧ -12 ≤ y ∧ y ≤ 12 := by
          match i, hx with
          | 0, hx => cases hx; exact ⟨_, rfl, by omega, by omega⟩
          | 1, hx => cases hx; exact ⟨_, rfl, by omega, by omega⟩
          | 2, hx => cases hx; exact ⟨_, rfl, by omega, by omega⟩
        obtain ⟨y, rfl, y0, y1⟩ := hx2
        walk_at "vx"
        exact hq (.mv t y) _ ⟨t0, by omega, y0, y1⟩ (by omega)
      · rw [decide_eq_false c2]
        walk_at "vx"
        refine y_rds hz hs.1 (by omega) fun rs n' r3 ro rn hn' => ?_
        obtain ⟨q1, q2⟩ := rs_prod hs r3 ⟨t0, by omega⟩ ro
        walk_at "vx"
        refine VF.y_lcA rs rD (fun r => .int (at' xs r.1)) rfl (by omega) (fun j r acc R hj hacc hR => ?_) ?_
        · obtain ⟨u1, u2, _⟩ := ro r (List.mem_of_getElem? hj)
          unfold rD
          walk_at "vx"
          refine y_ixS (sq_of hz) (atI_iD u1 u2) ?_
          walk_at "vx"
          exact hR
        · walk_at "vx"
          refine y_count (xs := rs.map fun r => at' xs r.1) (.inl (by simp [VF.iD, Function.comp_def])) (fun v hv => ?_) (by rw [List.length_map]; omega) ?_
          · obtain ⟨r, hr2, rfl⟩ := List.mem_map.mp hv
            obtain ⟨u1, u2, _⟩ := ro r hr2
            exact hs.1.1 _ (getD_mem u1 u2)
          walk_at "vx"
          have hat := hs.1.1 _ (getD_mem t0 (show t ≤ xs.length - 1 by omega))
          generalize hk : (prod (rs.map fun r => at' xs r.1)).toNat = k
          have hk2 : k ≤ 729 := by omega
          refine VF.y_lcI (fun i acc m => m ≤ n' + i ∧ ∃ vs : List Int, acc = VF.iD vs ∧ vs.length = i ∧ ∀ v ∈ vs, 0 ≤ v ∧ v ≤ at' xs t - 1) ⟨by omega, [], rfl, rfl, nofun⟩ (fun i d acc m hi ⟨hm, vs, e1, e2, e3⟩ => ?_) fun acc m ⟨hm, vs, e1, e2, e3⟩ => ?_
          · have hi2 : i < k := by
              have := (List.getElem?_eq_some_iff.mp hi).1
              rw [rngD_len] at this
              exact this
            subst e1
            have hl : (VF.iD vs).length < 1000000 := by rw [List.length_map]; omega
            walk_at "vx"
            refine y_ixS (sq_of hz) (atI_iD t0 (by omega)) ?_
            walk_at "vx"
            refine y_draw (by omega) (by omega) (by omega) fun v v0 v1 => ?_
            walk_at "vx"
            refine ⟨by omega, vs ++ [v], by simp [VF.iD], by rw [List.length_append, e2]; rfl, fun u hu => ?_⟩
            rcases List.mem_append.mp hu with hu | hu
            · exact e3 u hu
            · rw [List.mem_singleton.mp hu]
              exact ⟨v0, by simp only [at']; omega⟩
          · subst e1
            rw [rngD_len] at hm e2
            walk_at "vx"
            exact hq (.ad t rs vs) m ⟨t0, by omega, r3, ro, rn, by omega, e3⟩ (by omega)
theorem y_dd {z : VF.DV} {xs : List Int} {n : Int} {Q : VF.DV → Int → Prop} {E : XV} (hz : SqD z (VF.iD xs)) (hs : SzS xs) (hn : n ≤ 900000) (hq : ∀ D n', DdOk xs D → n' ≤ n + 740 → Q (dZ D) n') : sDd ([.bag, z, .int 3, .int 3] ++ []) n Q E := ⟨z, xs, rfl, hz, hs, hn, hq⟩
end
end BF
/-! ## The law's own reading of reads -/
namespace BF
open PySem PySem.Spec PyProof.Rows L2 VF
theorem cut_to {xs : List VF.DV} {k : Nat} : VF.cutD xs none (some (k : Int)) = xs.take k := by
  unfold VF.cutD
  rw [HT.sIx_none, HT.sIx_nat, List.drop_zero, Nat.sub_zero]
  by_cases h : k ≤ xs.length
  · rw [Nat.min_eq_left h]
  · rw [Nat.min_eq_right (by omega), List.take_length, List.take_of_length_le (by omega)]
theorem toPyT_rD {rs : List (Int × Int)} : toPy (.tup (rs.map rD)) = some (.tuple (rs.map rP)) := by
  simp only [toPy, toPyL_rD]
  rfl
theorem sh_rPt {rs : List (Int × Int)} : Sh 2 (.tuple (rs.map rP)) := Sh.tuple fun x hx => by
  obtain ⟨r, _, rfl⟩ := List.mem_map.mp hx
  exact sh_rP
theorem y_inRT {rs : List (Int × Int)} {r : Int × Int} {P : DP} (k : P (.bl (decide (r ∈ rs)))) : wInT false (rD r) (.tup (rs.map rD)) P :=
  ⟨rP r, rs.map rP, toPy_rD r, toPyT_rD, sh_rP.ok (by decide), sh_rPt.ok (by decide), by rw [any_rP]; exact k⟩
theorem rd_snoc {es : List VF.DV} {i : Nat} {x : VF.DV} {rs : List (Int × Int)} {r : Int × Int} (h : es[i]? = some x) (e : es.take i = rs.map rD) (ex : x = rD r) : es.take (i + 1) = (rs ++ [r]).map rD := by
  rw [List.take_succ, h, e, List.map_append, ex]
  rfl
theorem rd_dup {m t : Int} {es : List VF.DV} {i : Nat} {rs : List (Int × Int)} {r : Int × Int} (h : es[i]? = some (rD r)) (e : es.take i = rs.map rD) (hm : r ∈ rs) : readsB m t (.tup es) = false := by
  cases q : readsB m t (.tup es) with
  | false => rfl
  | true =>
    simp only [readsB, tupB, Bool.and_eq_true, decide_eq_true_eq] at q
    have nd := q.2.2
    have e2 := rd_snoc h e rfl
    have e3 : es = (rs ++ [r]).map rD ++ es.drop (i + 1) := by rw [← e2, List.take_append_drop]
    rw [e3, List.map_append] at nd
    have n2 := (List.nodup_append.mp nd).1
    have n3 := (prs_nodup.mp n2)
    exact absurd rfl ((List.nodup_append.mp n3).2.2 r hm r (List.mem_singleton_self r))
section
variable {P : Program} {w : World} {K : PySem.W.Frag} {mg : Str → Option Value} {base : Heap}
theorem sc__law_reads_right : FnScope ["_law_sizes_here", "_law_track", "_law_reads_here", "_law_k", "_law_pair"] ["_law_sizes_here", "_law_track", "_law_reads_here"] (defScope s__law_reads_right) := ⟨rfl, rfl, rfl, by decide +kernel, rfl, by decide +kernel, by decide +kernel⟩
theorem v__law_reads_right (T : TT K mg) : FnOk P w K mg base (L2.CX P w) 2 (He.ga K "_law_reads_right") (fdOf K ("_law_reads_right", none)) ["_law_sizes_here", "_law_track", "_law_reads_here"] (liftSp K (Cs K) sReads) := by
  refine v_ok (F__law_reads_right T) sc__law_reads_right (by decide) (by decide) ?_ (fun cdv A outer s H W ds n Q' hC hE hr h => ⟨_, (vss_cons (vs_if (PW.pt (vw_or (vt_not (vt_val (ve_cb (pe_callB (call_isiK' K) (by rfl) (T.free "isinstance" rfl) boot_isinstance (va_cons (ve_var (pv 2)) (va_cons (ve_ty (pe_bltn (v := .ty "tuple") (by rfl) (T.free "tuple" rfl) boot_tuple rfl)) va_nil))) d_isi))) (vw_or1 (vt_cmp op_gt d_IB (ve_cb (pe_callB (call_lenK K) (by rfl) (T.free "len" rfl) boot_len (va_cons (ve_var (pv 2)) va_nil)) d_len) (ve_int pe_int) (nomark _))))) (vss_one (vs_ret (ps_ret (ve_bl pe_bl)))) vss_nil)
  (vss_cons (vs_for (passes_of rfl) rfl (vi_rng1 (pi_range1 (by rfl) (T.free "range" rfl) (va_cons (ve_cb (pe_callB (call_lenK K) (by rfl) (T.free "len" rfl) boot_len (va_cons (ve_var (pv 2)) va_nil)) d_len) va_nil))) (vg_name (pg_name (i := 3) sc__law_reads_right.nd rfl (Or.inl rfl))) (vss_cons (vs_set (ps_set (i := 4) sc__law_reads_right.nd rfl (Or.inl rfl) (ve_ix (ix_LTK K) d_ix (ve_var (pv 2)) (ve_var (pv 3)) (fun _ _ => rfl))))
  (vss_cons (vs_if (PW.pt (vw_or (vt_not (vt_val (ve_cb (pe_callB (call_isiK' K) (by rfl) (T.free "isinstance" rfl) boot_isinstance (va_cons (ve_var (pv 4)) (va_cons (ve_ty (pe_bltn (v := .ty "tuple") (by rfl) (T.free "tuple" rfl) boot_tuple rfl)) va_nil))) d_isi))) (vw_or1 (vt_cmp (op_neU K hr.units) d_ne (ve_cb (pe_callB (call_lenK K) (by rfl) (T.free "len" rfl) boot_len (va_cons (ve_var (pv 4)) va_nil)) d_len) (ve_int pe_int) (nomark _))))) (vss_one (vs_ret (ps_ret (ve_bl pe_bl)))) vss_nil)
  (vss_cons (vs_if (PW.pt (vw_or (vt_not (vt_val (ve_call hC hE (pe_call (v__law_whole T) (hr.mono (by decide)) (by rfl) (T.glo "_law_whole" rfl) (F__law_whole T).kp (B__law_whole T) .nil (passes_call (takes_of rfl rfl rfl rfl) (fun _ _ _ _ h => h)) (va_cons (ve_ix (ix_LTK K) d_ix (ve_var (pv 4)) (ve_int pe_int) (fun _ _ => rfl)) (va_cons (ve_int pe_int) (va_cons (ve_op op_sub d_I0 (ve_cb (pe_callB (call_lenK K) (by rfl) (T.free "len" rfl) boot_len (va_cons (ve_var (pv 0)) va_nil)) d_len) (ve_int pe_int)) va_nil)))) (fun _ _ _ => .nil)))) (vw_or1 (vt_not (vt_val (ve_call hC hE (pe_call (v__law_whole T) (hr.mono (by decide)) (by rfl) (T.glo "_law_whole" rfl) (F__law_whole T).kp (B__law_whole T) .nil (passes_call (takes_of rfl rfl rfl rfl) (fun _ _ _ _ h => h)) (va_cons (ve_ix (ix_LTK K) d_ix (ve_var (pv 4)) (ve_int pe_int) (fun _ _ => rfl)) (va_cons (ve_op op_sub d_I0 (ve_int pe_int) (ve_int pe_int)) (va_cons (ve_int pe_int) va_nil)))) (fun _ _ _ => .nil))))))) (vss_one (vs_ret (ps_ret (ve_bl pe_bl)))) vss_nil)
  (vss_one (vs_if (PW.pt (vw_or (vt_cmp (op_eqU K hr.units) d_eq (ve_ix (ix_LTK K) d_ix (ve_var (pv 4)) (ve_int pe_int) (fun _ _ => rfl)) (ve_var (pv 1)) (nomark _)) (vw_or1 (vt_cmp (op_inTK K (by have := hr.un; first | omega | (show (A.deeper _).units + 65 < cLine; omega))) d_inT (ve_var (pv 4)) (ve_slice (sl_U K) d_sl (ve_var (pv 2)) vo_none (vo_some (ve_var (pv 3)))) (by with_unfolding_all rfl))))) (vss_one (vs_ret (ps_ret (ve_bl pe_bl)))) vss_nil))))))
  (vss_one (vs_ret (ps_ret (ve_bl pe_bl)))))), ?_⟩)
  · rintro ds n Q E ⟨z, xs, t, d, rfl, _⟩; rfl
  · obtain ⟨z, xs, t, d, rfl, hz, hp, hq⟩ := h
    walk_at "vin"
    cases d with
    | tup es =>
      walk_at "vx"
      by_cases h1 : es.length ≤ 3
      · rw [decide_eq_false (show ¬ (3 : Int) < (es.length : Int) by omega)]
        walk_at "vx"
        refine VF.y_loop (fun i τ n' => n' = n ∧ ∃ (o3 o4 : Option SV) (rs : List (Int × Int)), τ = [some (.d z), some (.d (.int t)), some (.d (.tup es)), o3, o4] ∧ es.take i = rs.map rD ∧ (∀ r ∈ rs, RdOk xs.length t r) ∧ rs.Nodup) ⟨rfl, _, _, [], rfl, rfl, nofun, List.nodup_nil⟩ ?_ ?_
        · rintro i d τ n' hi ⟨rfl, o3, o4, rs, rfl, et, ro, rn⟩
          have hi2 : i < es.length := by
            have := (List.getElem?_eq_some_iff.mp hi).1
            rw [rngD_len] at this
            omega
          have hd : d = .int (i : Nat) := by
            have e : (rngD 0 (es.length : Int).toNat)[i]? = some (.int (0 + (i : Int))) := by
              rw [rngD_map, List.getElem?_map, List.getElem?_range (by omega)]; rfl
            rw [e] at hi
            have := Option.some.inj hi
            rw [← this]; simp
          subst hd
          obtain ⟨x, hx⟩ : ∃ x, es[i]? = some x := ⟨_, List.getElem?_eq_getElem hi2⟩
          have px := hp.of_tup (k := 7) x (List.mem_of_getElem? hx)
          have bad : readB xs.length t x = false → Q' (.bl false) n' := fun hb => by
            simpa [readsB, tupB, all_bad (p := readB xs.length t) hx hb] using hq
          walk_at "vx"
          refine VF.y_ixT (atI_nat hx) ?_
          cases x with
          | tup fs =>
            walk_at "vx"
            by_cases l : fs.length = 2
            · match fs, l with
              | [a, b], _ =>
                have pa := px.of_tup (k := 6) a (by simp)
                have pb := px.of_tup (k := 6) b (by simp)
                walk_at "vx"
                refine y_lenS (sq_of hz) ?_
                rw [List.length_map]
                walk_at "vx"
                refine y_num (pa.mono (by decide)) ?_
                walk_at "vx"
                cases ea : numB a 0 (xs.length - 1) with
                | false =>
                  walk_at "vx"
                  exact bad (by simp [readB, ea])
                | true =>
                  obtain ⟨a', rfl, a1, a2⟩ := numB_int ea
                  walk_at "vx"
                  refine y_num (pb.mono (by decide)) ?_
                  walk_at "vx"
                  cases eb : numB b (-3) 3 with
                  | false =>
                    have eb2 : numB b (0 - 3) 3 = false := eb
                    rw [eb2]
                    walk_at "vx"
                    exact bad (by simp [readB, eb])
                  | true =>
                    have eb2 : numB b (0 - 3) 3 = true := eb
                    rw [eb2]
                    obtain ⟨b', rfl, b1, b2⟩ := numB_int eb
                    walk_at "vx"
                    by_cases e2 : a' = t
                    · rw [decide_eq_true e2]
                      walk_at "vx"
                      exact bad (by simp [readB, intOf, e2])
                    · rw [decide_eq_false e2]
                      walk_at "vx"
                      rw [cut_to, et]
                      refine y_inRT (r := (a', b')) ?_
                      walk_at "vx"
                      by_cases hm : (a', b') ∈ rs
                      · rw [decide_eq_true hm]
                        walk_at "vx"
                        rw [rd_dup (r := (a', b')) hx et hm] at hq
                        exact hq
                      · rw [decide_eq_false hm]
                        walk_at "vx"
                        refine ⟨rfl, _, _, rs ++ [(a', b')], rfl, rd_snoc hx et rfl, fun r hr => ?_, ?_⟩
                        · rcases List.mem_append.mp hr with hr | hr
                          · exact ro r hr
                          · rw [List.mem_singleton.mp hr]
                            exact ⟨a1, a2, e2, b1, b2⟩
                        · refine List.nodup_append.mpr ⟨rn, List.pairwise_singleton _ _, fun a ha b hb e => ?_⟩
                          rw [List.mem_singleton.mp hb] at e
                          exact hm (e ▸ ha)
            · rw [decide_eq_false (show ¬ (fs.length : Int) = 2 by omega)]
              walk_at "vx"
              refine bad ?_
              unfold readB
              split
              · rename_i he
                cases he
                exact absurd rfl l
              · rfl
          | non => walk_at "vx"; exact bad rfl
          | bl b => walk_at "vx"; exact bad rfl
          | str z => walk_at "vx"; exact bad rfl
          | lst es => walk_at "vx"; exact bad rfl
          | int i => walk_at "vx"; exact bad rfl
          | _ => (obtain ⟨x, hx, _⟩ := px; cases hx)
        · rintro τ n' ⟨rfl, o3, o4, rs, rfl, et, ro, rn⟩
          rw [rngD_len, show ((es.length : Int).toNat) = es.length by omega, List.take_length] at et
          subst et
          walk_at "vx"
          rw [readsB_rD.mpr ⟨by rw [List.length_map] at h1; exact h1, ro, rn⟩] at hq
          exact hq
      · rw [decide_eq_true (show (3 : Int) < (es.length : Int) by omega)]
        walk_at "vx"
        simpa [readsB, tupB, h1] using hq
    | non => walk_at "vx"; exact hq
    | bl b => walk_at "vx"; exact hq
    | str z => walk_at "vx"; exact hq
    | lst es => walk_at "vx"; exact hq
    | int i => walk_at "vx"; exact hq
    | _ => (obtain ⟨x, hx, _⟩ := hp; cases hx)
end
end BF
/-! ## The law's own reading of deeds -/
namespace BF
open PySem PySem.Spec PyProof.Rows L2 VF
theorem toPyL_iD {ns : List Int} : toPy (.lst (VF.iD ns)) = some (.list (ns.map .int)) := by
  simp only [toPy, toPyL_map (as := ns) (f := VF.DV.int) (h := PyData.int) fun a _ => rfl]
  rfl
theorem sh_iD {ns : List Int} : Sh 1 (.list (ns.map .int)) := Sh.list fun x hx => by
  obtain ⟨i, _, rfl⟩ := List.mem_map.mp hx
  exact Sh.int
theorem inc_len : ∀ {l : List Int} {lo hi : Int}, lo ≤ hi → l.Pairwise (· < ·) → (∀ v ∈ l, lo ≤ v ∧ v < hi) → (l.length : Int) ≤ hi - lo
  | [], _, _, h, _, _ => by simp; omega
  | x :: r, lo, hi, h, p, q => by
    obtain ⟨p1, p2⟩ := List.pairwise_cons.mp p
    obtain ⟨q1, q2⟩ := q x List.mem_cons_self
    have := inc_len (l := r) (lo := x + 1) (hi := hi) (by omega) p2 fun v hv => ⟨by have := p1 v hv; omega, (q v (List.mem_cons_of_mem _ hv)).2⟩
    rw [List.length_cons]
    omega
theorem inc_all : ∀ {l : List Int} {lo : Int}, l.Pairwise (· < ·) → (∀ v ∈ l, lo ≤ v ∧ v < lo + l.length) → l = (List.range l.length).map fun (i : Nat) => lo + (i : Int)
  | [], _, _, _ => rfl
  | x :: r, lo, p, q => by
    obtain ⟨p1, p2⟩ := List.pairwise_cons.mp p
    obtain ⟨q1, q2⟩ := q x List.mem_cons_self
    have b : ∀ v ∈ r, x + 1 ≤ v ∧ v < lo + ((x :: r).length : Int) := fun v hv => ⟨by have := p1 v hv; omega, (q v (List.mem_cons_of_mem _ hv)).2⟩
    have hl := inc_len (l := r) (lo := x + 1) (hi := lo + ((x :: r).length : Int)) (by omega) p2 b
    rw [List.length_cons] at hl q2
    have e : x = lo := by omega
    subst e
    have ih := inc_all (l := r) (lo := x + 1) p2 fun v hv => by
      obtain ⟨b1, b2⟩ := b v hv
      rw [List.length_cons] at b2
      exact ⟨b1, by omega⟩
    rw [List.length_cons, List.range_succ_eq_map, List.map_cons, List.map_map]
    conv => lhs; rw [ih]
    rw [show (x :: ((List.range r.length).map fun (i : Nat) => x + 1 + (i : Int))) = (x + ((0 : Nat) : Int)) :: ((List.range r.length).map fun (i : Nat) => x + 1 + (i : Int)) by simp]
    refine congrArg (List.cons _) (List.map_congr_left fun i _ => ?_)
    simp only [Function.comp_apply]
    omega
theorem srt_range {ns ns' : List Int} (pm : ns'.Perm ns) (sd : ns'.Pairwise (· ≤ ·)) (h : ∀ v ∈ ns, 0 ≤ v ∧ v ≤ (ns.length : Int) - 1) : (ns' = (List.range ns.length).map fun (i : Nat) => (i : Int)) ↔ ns.Nodup := by
  constructor
  · intro e
    refine pm.nodup_iff.mp ?_
    rw [e]
    exact perm_range.2
  · intro nd
    have nd' := pm.nodup_iff.mpr nd
    have st : ns'.Pairwise (· < ·) := (List.Pairwise.and sd nd').imp fun {a b} q => by
      have := q.2
      omega
    have e := inc_all (l := ns') (lo := 0) st fun v hv => by
      obtain ⟨h1, h2⟩ := h v (pm.mem_iff.mp hv)
      rw [pm.length_eq]
      exact ⟨h1, by omega⟩
    rw [e, pm.length_eq]
    exact List.map_congr_left fun i _ => by simp
theorem y_ix1 {x y : VF.DV} {r : List VF.DV} {P : DP} (q : P y) : wIx (.tup (x :: y :: r)) (.int 1) P := ⟨y, atI_nat (j := 1) rfl, q⟩
section
variable {P : Program} {w : World} {K : PySem.W.Frag} {mg : Str → Option Value} {base : Heap}
theorem sc__law_right : FnScope ["_law_sizes_here", "_law_thing", "_law_many", "_law_sign", "_law_pair", "_law_item"] ["_law_sizes_here", "_law_thing"] (defScope s__law_right) := ⟨rfl, rfl, rfl, by decide +kernel, rfl, by decide +kernel, by decide +kernel⟩
theorem v__law_right (T : TT K mg) : FnOk P w K mg base (L2.CX P w) 3 (He.ga K "_law_right") (fdOf K ("_law_right", none)) ["_law_sizes_here", "_law_thing"] (liftSp K (Cs K) sDeed) := by
  refine v_ok (F__law_right T) sc__law_right (by decide) (by decide) ?_ (fun cdv A outer s H W ds n Q' hC hE hr h => ⟨_, (vss_cons (vs_if (PW.pt (vw_or (vt_not (vt_val (ve_cb (pe_callB (call_isiK' K) (by rfl) (T.free "isinstance" rfl) boot_isinstance (va_cons (ve_var (pv 1)) (va_cons (ve_ty (pe_bltn (v := .ty "tuple") (by rfl) (T.free "tuple" rfl) boot_tuple rfl)) va_nil))) d_isi))) (vw_or (vt_cmp op_lt d_IB (ve_cb (pe_callB (call_lenK K) (by rfl) (T.free "len" rfl) boot_len (va_cons (ve_var (pv 1)) va_nil)) d_len) (ve_int pe_int) (nomark _)) (vw_or1 (vt_not (vt_val (ve_cb (pe_callB (call_isiK' K) (by rfl) (T.free "isinstance" rfl) boot_isinstance (va_cons (ve_ix (ix_LTK K) d_ix (ve_var (pv 1)) (ve_int pe_int) (fun _ _ => rfl)) (va_cons (ve_ty (pe_bltn (v := .ty "str") (by rfl) (T.free "str" rfl) boot_str rfl)) va_nil))) d_isi))))))) (vss_one (vs_ret (ps_ret (ve_bl pe_bl)))) vss_nil)
  (vss_cons (vs_if (vt_cmp (op_eqU K hr.units) d_eq (ve_ix (ix_LTK K) d_ix (ve_var (pv 1)) (ve_int pe_int) (fun _ _ => rfl)) (ve_str pe_str) (nomark _)) (vss_cons (vs_set (ps_set (i := 2) sc__law_right.nd rfl (Or.inr rfl) (ve_call hC hE (pe_call (v__law_product T) (hr.mono (by decide)) (by rfl) (T.glo "_law_product" rfl) (F__law_product T).kp (B__law_product T) .nil (passes_call (takes_of rfl rfl rfl rfl) (fun _ _ _ _ h => h)) (va_cons (ve_var (pv 0)) va_nil)) (fun _ _ _ => .nil))))
  (vss_cons (vs_if (PW.pt (vw_or (vt_cmp (op_neU K hr.units) d_ne (ve_cb (pe_callB (call_lenK K) (by rfl) (T.free "len" rfl) boot_len (va_cons (ve_var (pv 1)) va_nil)) d_len) (ve_int pe_int) (nomark _)) (vw_or (vt_not (vt_val (ve_cb (pe_callB (call_isiK' K) (by rfl) (T.free "isinstance" rfl) boot_isinstance (va_cons (ve_ix (ix_LTK K) d_ix (ve_var (pv 1)) (ve_int pe_int) (fun _ _ => rfl)) (va_cons (ve_ty (pe_bltn (v := .ty "tuple") (by rfl) (T.free "tuple" rfl) boot_tuple rfl)) va_nil))) d_isi))) (vw_or1 (vt_cmp (op_neU K hr.units) d_ne (ve_cb (pe_callB (call_lenK K) (by rfl) (T.free "len" rfl) boot_len (va_cons (ve_ix (ix_LTK K) d_ix (ve_var (pv 1)) (ve_int pe_int) (fun _ _ => rfl)) va_nil)) d_len) (ve_var (pv 2)) (nomark _)))))) (vss_one (vs_ret (ps_ret (ve_bl pe_bl)))) vss_nil)
  (vss_cons (vs_if (vt_not (vt_val (ve_cb (pe_callB (cr_allK K) (by rfl) (T.free "all" rfl) boot_all (va_cons (ve_ofO (vo_lc (pe_lc (own := [("_law_sign", 3)]) rfl sc__law_right.nd (vi_tup rfl (ve_ix (ix_LTK K) d_ix (ve_var (pv 1)) (ve_int pe_int) (fun _ _ => rfl))) (blkOk_by (N := ["_law_sizes_here", "_law_thing", "_law_many", "_law_sign", "_law_pair", "_law_item"]) (sc := defScope s__law_right) (by decide +kernel)) (fun _ _ _ _ _ => (vg_name (pg_name (i := 3) sc__law_right.nd rfl (Or.inl rfl)))) (fun _ _ _ _ _ => vts_nil) (fun _ _ _ _ _ => (ve_call hC elink0 (pe_call (v__law_whole T) (hr.mono (by decide)) (by rfl) (T.glo "_law_whole" rfl) (F__law_whole T).kp (B__law_whole T) .nil passL (va_cons (ve_var (pv 3)) (va_cons (ve_int pe_int) (va_cons (ve_op op_sub d_I0 (ve_var (pv 2)) (ve_int pe_int)) va_nil)))) (fun _ _ _ => .nil)))))) va_nil)) d_all))) (vss_one (vs_ret (ps_ret (ve_bl pe_bl)))) vss_nil)
  (vss_one (vs_ret (ps_ret (ve_cmp (op_eqU K hr.units) d_eq (ve_cb (pe_callB (cr_srtTK K) (by rfl) (T.free "sorted" rfl) boot_sorted (va_cons (ve_ix (ix_LTK K) d_ix (ve_var (pv 1)) (ve_int pe_int) (fun _ _ => rfl)) va_nil)) d_srtT) (ve_lr1 (pe_listRg rfl (by rfl) (T.free "list" rfl) (prg_1 (by rfl) (T.free "range" rfl) (ve_var (pv 2))))) (nomark _)))))))) vss_nil)
  (vss_cons (vs_if (PW.pt (vw_or (vt_cmp (op_notInU K (by have := hr.un; first | omega | (show (A.deeper _).units + 65 < cLine; omega))) d_notin (ve_ix (ix_LTK K) d_ix (ve_var (pv 1)) (ve_int pe_int) (fun _ _ => rfl)) (ve_tup (va_cons (ve_str pe_str) (va_cons (ve_str pe_str) va_nil))) (by with_unfolding_all rfl)) (vw_or1 (vt_not (vt_val (ve_call hC hE (pe_call (v__law_whole T) (hr.mono (by decide)) (by rfl) (T.glo "_law_whole" rfl) (F__law_whole T).kp (B__law_whole T) .nil (passes_call (takes_of rfl rfl rfl rfl) (fun _ _ _ _ h => h)) (va_cons (ve_ix (ix_LTK K) d_ix (ve_var (pv 1)) (ve_int pe_int) (fun _ _ => rfl)) (va_cons (ve_int pe_int) (va_cons (ve_op op_sub d_I0 (ve_cb (pe_callB (call_lenK K) (by rfl) (T.free "len" rfl) boot_len (va_cons (ve_var (pv 0)) va_nil)) d_len) (ve_int pe_int)) va_nil)))) (fun _ _ _ => .nil))))))) (vss_one (vs_ret (ps_ret (ve_bl pe_bl)))) vss_nil)
  (vss_cons (vs_if (vt_cmp (op_eqU K hr.units) d_eq (ve_ix (ix_LTK K) d_ix (ve_var (pv 1)) (ve_int pe_int) (fun _ _ => rfl)) (ve_str pe_str) (nomark _)) (vss_one (vs_ret (ps_ret (ve_and (ve_cmp (op_eqU K hr.units) d_eq (ve_cb (pe_callB (call_lenK K) (by rfl) (T.free "len" rfl) boot_len (va_cons (ve_var (pv 1)) va_nil)) d_len) (ve_int pe_int) (nomark _)) (pe_one (ve_call hC hE (pe_call (v__law_whole T) (hr.mono (by decide)) (by rfl) (T.glo "_law_whole" rfl) (F__law_whole T).kp (B__law_whole T) .nil (passes_call (takes_of rfl rfl rfl rfl) (fun _ _ _ _ h => h)) (va_cons (ve_ix (ix_LTK K) d_ix (ve_var (pv 1)) (ve_int pe_int) (fun _ _ => rfl)) (va_cons (ve_op op_sub d_I0 (ve_int pe_int) (ve_int pe_int)) (va_cons (ve_int pe_int) va_nil)))) (fun _ _ _ => .nil))))))) vss_nil)
  (vss_cons (vs_if (PW.pt (vw_or (vt_cmp (op_neU K hr.units) d_ne (ve_cb (pe_callB (call_lenK K) (by rfl) (T.free "len" rfl) boot_len (va_cons (ve_var (pv 1)) va_nil)) d_len) (ve_int pe_int) (nomark _)) (vw_or (vt_not (vt_val (ve_call hC hE (pe_call (v__law_reads_right T) (hr.mono (by decide)) (by rfl) (T.glo "_law_reads_right" rfl) (F__law_reads_right T).kp (B__law_reads_right T) .nil (passes_call (takes_of rfl rfl rfl rfl) (fun _ _ _ _ h => h)) (va_cons (ve_var (pv 0)) (va_cons (ve_ix (ix_LTK K) d_ix (ve_var (pv 1)) (ve_int pe_int) (fun _ _ => rfl)) (va_cons (ve_ix (ix_LTK K) d_ix (ve_var (pv 1)) (ve_int pe_int) (fun _ _ => rfl)) va_nil)))) (fun _ _ _ => .nil)))) (vw_or1 (vt_not (vt_val (ve_cb (pe_callB (call_isiK' K) (by rfl) (T.free "isinstance" rfl) boot_isinstance (va_cons (ve_ix (ix_LTK K) d_ix (ve_var (pv 1)) (ve_int pe_int) (fun _ _ => rfl)) (va_cons (ve_ty (pe_bltn (v := .ty "tuple") (by rfl) (T.free "tuple" rfl) boot_tuple rfl)) va_nil))) d_isi))))))) (vss_one (vs_ret (ps_ret (ve_bl pe_bl)))) vss_nil)
  (vss_cons (vs_if (vt_cmp (op_neU K hr.units) d_ne (ve_cb (pe_callB (call_lenK K) (by rfl) (T.free "len" rfl) boot_len (va_cons (ve_ix (ix_LTK K) d_ix (ve_var (pv 1)) (ve_int pe_int) (fun _ _ => rfl)) va_nil)) d_len) (ve_call hC hE (pe_call (v__law_product T) (hr.mono (by decide)) (by rfl) (T.glo "_law_product" rfl) (F__law_product T).kp (B__law_product T) .nil (passes_call (takes_of rfl rfl rfl rfl) (fun _ _ _ _ h => h)) (va_cons (ve_ofO (vo_lc (pe_lc (own := [("_law_pair", 4)]) rfl sc__law_right.nd (vi_tup rfl (ve_ix (ix_LTK K) d_ix (ve_var (pv 1)) (ve_int pe_int) (fun _ _ => rfl))) (blkOk_by (N := ["_law_sizes_here", "_law_thing", "_law_many", "_law_sign", "_law_pair", "_law_item"]) (sc := defScope s__law_right) (by decide +kernel)) (fun _ _ _ _ _ => (vg_name (pg_name (i := 4) sc__law_right.nd rfl (Or.inl rfl)))) (fun _ _ _ _ _ => vts_nil) (fun _ _ _ _ _ => (ve_ix (ix_LTK K) d_ix (ve_var (pv 0)) (ve_ix (ix_LTK K) d_ix (ve_var (pv 4)) (ve_int pe_int) (fun _ _ => rfl)) (fun _ _ => rfl)))))) va_nil)) (fun _ _ _ => .nil)) (nomark _)) (vss_one (vs_ret (ps_ret (ve_bl pe_bl)))) vss_nil)
  (vss_one (vs_ret (ps_ret (ve_cb (pe_callB (cr_allK K) (by rfl) (T.free "all" rfl) boot_all (va_cons (ve_ofO (vo_lc (pe_lc (own := [("_law_item", 5)]) rfl sc__law_right.nd (vi_tup rfl (ve_ix (ix_LTK K) d_ix (ve_var (pv 1)) (ve_int pe_int) (fun _ _ => rfl))) (blkOk_by (N := ["_law_sizes_here", "_law_thing", "_law_many", "_law_sign", "_law_pair", "_law_item"]) (sc := defScope s__law_right) (by decide +kernel)) (fun _ _ _ _ _ => (vg_name (pg_name (i := 5) sc__law_right.nd rfl (Or.inl rfl)))) (fun _ _ _ _ _ => vts_nil) (fun _ _ _ _ _ => (ve_call hC elink0 (pe_call (v__law_whole T) (hr.mono (by decide)) (by rfl) (T.glo "_law_whole" rfl) (F__law_whole T).kp (B__law_whole T) .nil passL (va_cons (ve_var (pv 5)) (va_cons (ve_int pe_int) (va_cons (ve_op op_sub d_I0 (ve_ix (ix_LTK K) d_ix (ve_var (pv 0)) (ve_ix (ix_LTK K) d_ix (ve_var (pv 1)) (ve_int pe_int) (fun _ _ => rfl)) (fun _ _ => rfl)) (ve_int pe_int)) va_nil)))) (fun _ _ _ => .nil)))))) va_nil)) d_all)))))))))), ?_⟩)
  · rintro ds n Q E ⟨z, xs, d, rfl, _⟩; rfl
  · obtain ⟨z, xs, d, rfl, hz, hs, hpr, hp, hq⟩ := h
    have pp := prod_small hs.1 hs.2
    walk_at "vin"
    cases d with
    | tup vs =>
      walk_at "vx"
      by_cases l2 : vs.length < 2
      · rw [decide_eq_true (show (vs.length : Int) < 2 by omega)]
        walk_at "vx"
        have e : deedB xs (.tup vs) = false := by
          match vs, l2 with
          | [], _ => rfl
          | [x], _ =>
            show (if eqS x "move" then moveB xs.length [x] else if eqS x "swap" then swapB (prod xs) [x] else eqS x "add" && addB xs [x]) = false
            simp [moveB, swapB, addB]
        rw [e] at hq
        exact hq
      · rw [decide_eq_false (show ¬ (vs.length : Int) < 2 by omega)]
        obtain ⟨x, y, r, rfl⟩ : ∃ x y r, vs = x :: y :: r := by
          match vs, l2 with
          | x :: y :: r, _ => exact ⟨x, y, r, rfl⟩
          | [], l2 => exact absurd (by simp) l2
          | [x], l2 => exact absurd (by simp) l2
        have px := hp.of_tup (k := 7) x (by simp)
        have py := hp.of_tup (k := 7) y (by simp)
        have hd : deedB xs (.tup (x :: y :: r)) = if eqS x "move" then moveB xs.length (x :: y :: r) else if eqS x "swap" then swapB (prod xs) (x :: y :: r) else eqS x "add" && addB xs (x :: y :: r) := rfl
        rw [hd] at hq
        walk_at "vx"
        refine y_ix0 ?_
        cases x with
        | str q =>
          walk_at "vx"
          refine y_ix0 ?_
          walk_at "vx"
          have hs1 : eqS (.str q) "move" = decide (q = "move") := rfl
          have hs2 : eqS (.str q) "swap" = decide (q = "swap") := rfl
          have hs3 : eqS (.str q) "add" = decide (q = "add") := rfl
          rw [hs1, hs2, hs3] at hq
          by_cases c1 : q = "swap"
          · rw [decide_eq_false (show ¬ q = "move" by rw [c1]; decide +kernel), decide_eq_true c1] at hq
            rw [decide_eq_true c1]
            simp only [if_true, Bool.false_eq_true, if_false] at hq
            subst c1
            walk_at "vx"
            refine y_count hz hs.1 hs.2 ?_
            walk_at "vx"
            by_cases l3 : r = []
            · subst l3
              walk_at "vx"
              cases y with
              | tup es =>
                have hsw : swapB (prod xs) [.str "swap", .tup es] = (valsB (.tup es) (prod xs) (prod xs) && decide ((intsOf (.tup es)).Nodup)) := rfl
                rw [hsw] at hq
                walk_at "vx"
                by_cases l4 : (es.length : Int) = prod xs
                · rw [decide_eq_true l4]
                  walk_at "vx"
                  refine VF.y_lcMap (fun d => .bl (numB d 0 (prod xs - 1))) (by omega) (fun j d acc R hj hacc hR => ?_) ?_
                  · walk_at "vx"
                    refine y_num ((py.of_tup (k := 6) d (List.mem_of_getElem? hj)).mono (by decide)) ?_
                    walk_at "vx"
                    exact hR
                  walk_at "vx"
                  refine y_allM (p := fun d => numB d 0 (prod xs - 1)) ?_
                  have hv : valsB (.tup es) (prod xs) (prod xs) = es.all fun d => numB d 0 (prod xs - 1) := by simp [valsB, tupB, l4]
                  rw [← hv]
                  walk_at "vx"
                  cases ev : valsB (.tup es) (prod xs) (prod xs) with
                  | false =>
                    rw [ev] at hq
                    walk_at "vx"
                    exact hq
                  | true =>
                    rw [ev] at hq
                    obtain ⟨h1, h2, h3⟩ := vals_ints ev
                    generalize hns : intsOf (.tup es) = ns at h1 h2 h3 hq
                    have h1' : es = VF.iD ns := by injection h1
                    subst h1'
                    walk_at "vx"
                    refine ⟨ns, rfl, fun ns' pm sd => ?_⟩
                    walk_at "vx"
                    obtain ⟨m, hm⟩ : ∃ m : Nat, prod xs = m := ⟨(prod xs).toNat, by omega⟩
                    rw [hm] at h2 h3
                    refine ⟨m, by rw [hm], by omega, ?_⟩
                    have e1 : VF.rngD 0 m = VF.iD ((List.range m).map fun (i : Nat) => (i : Int)) := by rw [rngD_map]; simp [VF.iD, Function.comp_def]
                    rw [e1]
                    refine VF.y_eqD toPyL_iD toPyL_iD (sh_iD.ok (by decide)) (sh_iD.ok (by decide)) (b := decide (ns' = (List.range m).map fun (i : Nat) => (i : Int))) (by simp only [PyData.eqv]; exact eqvAll_ints _ _) ?_
                    have e2 := srt_range pm sd fun v hv => by
                      have := h3 v hv
                      omega
                    rw [show ns.length = m by omega] at e2
                    rw [show decide (ns' = (List.range m).map fun (i : Nat) => (i : Int)) = decide ns.Nodup from decide_eq_decide.mpr e2]
                    walk_at "vx"
                    simpa using hq
                · rw [decide_eq_false l4]
                  walk_at "vx"
                  simpa [valsB, tupB, l4] using hq
              | non => walk_at "vx"; exact hq
              | bl b => walk_at "vx"; exact hq
              | str z => walk_at "vx"; exact hq
              | lst es => walk_at "vx"; exact hq
              | int i => walk_at "vx"; exact hq
              | _ => (obtain ⟨x, hx, _⟩ := py; cases hx)
            · rw [decide_eq_false (show ¬ ((VF.DV.str "swap" :: y :: r).length : Int) = 2 by cases r with | nil => exact absurd rfl l3 | cons a r => simp; omega)]
              walk_at "vx"
              have e : swapB (prod xs) (.str "swap" :: y :: r) = false := by
                unfold swapB
                split
                · rename_i h; injection h with _ h; injection h with _ h; exact absurd h l3
                · rfl
              rw [e] at hq
              exact hq
          · rw [decide_eq_false c1] at hq ⊢
            simp only [Bool.false_eq_true, if_false] at hq
            walk_at "vx"
            refine y_ix0 ?_
            walk_at "vx"
            have ein : inV (.str q) [.str "move", .str "add"] = (decide (q = "move") || decide (q = "add")) := by
              have e1 : ∀ a : Str, eqV (.str a) (.str q) = decide (q = a) := fun a => by
                show decide (a = q) = decide (q = a)
                exact decide_eq_decide.mpr eq_comm
              simp only [inV, List.any_cons, List.any_nil, e1, Bool.or_false]
            refine VF.y_inF (.inr rfl) rfl rfl ?_
            rw [ein]
            by_cases c2 : q = "move"
            · rw [decide_eq_true c2] at hq ⊢
              simp only [if_true] at hq
              subst c2
              walk_at "vx"
              refine y_ix1 ?_
              walk_at "vx"
              refine y_lenS (sq_of hz) ?_
              rw [List.length_map]
              walk_at "vx"
              refine y_num (py.mono (by decide)) ?_
              walk_at "vx"
              cases ea : numB y 0 (xs.length - 1) with
              | false =>
                walk_at "vx"
                have e : moveB xs.length (.str "move" :: y :: r) = false := by
                  unfold moveB
                  split
                  · rename_i h
                    injection h with _ h
                    injection h with h1 h2
                    rw [← h1, ea]
                    rfl
                  · rfl
                rw [e] at hq
                exact hq
              | true =>
                walk_at "vx"
                refine y_ix0 ?_
                walk_at "vx"
                by_cases l3 : ∃ b, r = [b]
                · obtain ⟨b, rfl⟩ := l3
                  have pb := hp.of_tup (k := 7) b (by simp)
                  walk_at "vx"
                  refine y_num (pb.mono (by decide)) ?_
                  walk_at "vx"
                  have e : numB b (0 - 12) 12 = moveB xs.length [.str "move", y, b] := by
                    show numB b (-12) 12 = (numB y 0 (xs.length - 1) && numB b (-12) 12)
                    rw [ea, Bool.true_and]
                  rw [e]
                  exact hq
                · have l4 : ¬ ((VF.DV.str "move" :: y :: r).length : Int) = 3 := fun h => by
                    rw [List.length_cons, List.length_cons] at h
                    match r, l3, h with
                    | [], _, h => simp at h
                    | [b], l3, _ => exact l3 ⟨b, rfl⟩
                    | _ :: _ :: _, _, h => simp only [List.length_cons] at h; omega
                  rw [decide_eq_false l4]
                  walk_at "vx"
                  have e : moveB xs.length (.str "move" :: y :: r) = false := by
                    unfold moveB
                    split
                    · rename_i h
                      injection h with _ h
                      injection h with _ h
                      exact absurd ⟨_, h⟩ l3
                    · rfl
                  rw [e] at hq
                  exact hq
            · rw [decide_eq_false c2] at hq ⊢
              simp only [Bool.false_eq_true, if_false] at hq
              by_cases c3 : q = "add"
              · rw [decide_eq_true c3] at hq ⊢
                subst c3
                rw [Bool.true_and] at hq
                walk_at "vx"
                refine y_ix1 ?_
                walk_at "vx"
                refine y_lenS (sq_of hz) ?_
                rw [List.length_map]
                walk_at "vx"
                refine y_num (py.mono (by decide)) ?_
                walk_at "vx"
                have badA : (∀ a b, r = [a, b] → addB xs [.str "add", y, a, b] = false) → Q' (.bl false) n := fun h => by
                  have e : addB xs (.str "add" :: y :: r) = false := by
                    match r, h with
                    | [], _ => rfl
                    | [a], _ => rfl
                    | [a, b], h => exact h a b rfl
                    | _ :: _ :: _ :: _, _ => rfl
                  rw [e] at hq
                  exact hq
                cases ea : numB y 0 (xs.length - 1) with
                | false =>
                  walk_at "vx"
                  exact badA fun a b _ => by simp [addB, ea]
                | true =>
                  obtain ⟨t, rfl, t0, t1⟩ := numB_int ea
                  walk_at "vx"
                  refine y_ix0 ?_
                  walk_at "vx"
                  by_cases l3 : ∃ a b, r = [a, b]
                  · obtain ⟨a, b, rfl⟩ := l3
                    have pa := hp.of_tup (k := 7) a (by simp)
                    have pb := hp.of_tup (k := 7) b (by simp)
                    walk_at "vx"
                    refine y_reads hz (pa.mono (by decide)) ?_
                    walk_at "vx"
                    cases er : readsB xs.length t a with
                    | false =>
                      walk_at "vx"
                      simpa [addB, intOf, er] using hq
                    | true =>
                      obtain ⟨k1, k2⟩ := rsz_ok hs er
                      have hr2 : ∃ ds, a = .tup ds ∧ ds.length ≤ 3 ∧ ds.all (readB xs.length t) = true := by
                        cases a with
                        | tup ds =>
                          simp only [readsB, tupB, Bool.and_eq_true, decide_eq_true_eq] at er
                          exact ⟨ds, rfl, er.1, er.2.1⟩
                        | _ => cases er
                      obtain ⟨ds, rfl, l3, hall⟩ := hr2
                      have hA : addB xs [.str "add", .int t, .tup ds, b] = valsB b (prod (rsz xs (.tup ds))) (xs.getD t.toNat 0) := by
                        simp [addB, ea, intOf, er]
                      rw [hA] at hq
                      walk_at "vx"
                      cases b with
                      | tup es =>
                        walk_at "vx"
                        refine VF.y_lcMap (fun r => .int (xs.getD ((prI r).headD 0).toNat 0)) (by omega) (fun j p acc R hj hacc hR => ?_) ?_
                        · obtain ⟨a, b, e1, e2, a1, a2, _⟩ := readB_pr (List.all_eq_true.mp hall p (List.mem_of_getElem? hj))
                          subst e1
                          walk_at "vx"
                          refine y_ixS (sq_of hz) (atI_iD a1 a2) ?_
                          walk_at "vx"
                          exact hR
                        walk_at "vx"
                        refine y_count (xs := rsz xs (.tup ds)) (.inl (by simp [rsz, VF.iD])) k1 k2 ?_
                        walk_at "vx"
                        by_cases l5 : (es.length : Int) = prod (rsz xs (.tup ds))
                        · rw [decide_eq_true l5]
                          walk_at "vx"
                          refine VF.y_lcMap (fun d => .bl (numB d 0 (xs.getD t.toNat 0 - 1))) ?_ (fun j d acc R hj hacc hR => ?_) ?_
                          · have pb3 := (prod_bd k1).2
                            have hl3 : (rsz xs (.tup ds)).length ≤ 3 := by simp only [rsz, List.length_map]; exact l3
                            have : (64 : Int) ^ (rsz xs (.tup ds)).length ≤ 64 ^ 3 := by
                              have := Nat.pow_le_pow_right (n := 64) (by decide) hl3
                              exact_mod_cast this
                            omega
                          · walk_at "vx"
                            refine y_ixS (sq_of hz) (atI_iD t0 t1) ?_
                            walk_at "vx"
                            refine y_num ((pb.of_tup (k := 6) d (List.mem_of_getElem? hj)).mono (by decide)) ?_
                            walk_at "vx"
                            exact hR
                          walk_at "vx"
                          refine y_allM (p := fun d => numB d 0 (xs.getD t.toNat 0 - 1)) ?_
                          walk_at "vx"
                          simpa [valsB, tupB, l5] using hq
                        · rw [decide_eq_false l5]
                          walk_at "vx"
                          simpa [valsB, tupB, l5] using hq
                      | non => walk_at "vx"; exact hq
                      | bl b => walk_at "vx"; exact hq
                      | str z => walk_at "vx"; exact hq
                      | lst es => walk_at "vx"; exact hq
                      | int i => walk_at "vx"; exact hq
                      | _ => (obtain ⟨x, hx, _⟩ := pb; cases hx)
                  · have l4 : ¬ ((VF.DV.str "add" :: .int t :: r).length : Int) = 4 := fun h => by
                      rw [List.length_cons, List.length_cons] at h
                      match r, l3, h with
                      | [], _, h => simp at h
                      | [b], _, h => simp at h
                      | [a, b], l3, _ => exact l3 ⟨a, b, rfl⟩
                      | _ :: _ :: _ :: _, _, h => simp only [List.length_cons] at h; omega
                    rw [decide_eq_false l4]
                    walk_at "vx"
                    exact badA fun a b h => absurd ⟨a, b, h⟩ l3
              · rw [decide_eq_false c3] at hq ⊢
                walk_at "vx"
                exact hq
        | non => walk_at "vx"; exact hq
        | bl b => walk_at "vx"; exact hq
        | tup z => walk_at "vx"; exact hq
        | lst es => walk_at "vx"; exact hq
        | int i => walk_at "vx"; exact hq
        | _ => (obtain ⟨x, hx, _⟩ := px; cases hx)
    | non => walk_at "vx"; exact hq
    | bl b => walk_at "vx"; exact hq
    | str z => walk_at "vx"; exact hq
    | lst es => walk_at "vx"; exact hq
    | int i => walk_at "vx"; exact hq
    | _ => (obtain ⟨x, hx, _⟩ := hp; cases hx)
end
end BF
/-! ## The law's odd values, a tuple bent -/
namespace BF
open PySem PySem.Spec PyProof.Rows L2 VF
def sOdd : DSp := fun ds n Q _ => ∃ z xs, ds = [.bag, z] ∧ SqD z (VF.iD xs) ∧ n ≤ 900000 ∧ ∀ d, Pz 1 d → Q d (n + 1)
theorem pz0 {ds : List VF.DV} (h : ∀ d ∈ ds, Pz 0 d) (l : ds.length ≤ 1000) : Pz 1 (.tup ds) := .tup h (by omega)
theorem cut_mem {es : List VF.DV} {a b : Option Int} {x : VF.DV} (h : x ∈ VF.cutD es a b) : x ∈ es := List.mem_of_mem_drop (List.mem_of_mem_take h)
theorem cut_len (es : List VF.DV) (a b : Option Int) : (VF.cutD es a b).length ≤ es.length := by
  unfold VF.cutD
  rw [List.length_take, List.length_drop]
  omega
theorem atI_int {es : List VF.DV} {i : Int} (h0 : 0 ≤ i) (h1 : i < es.length) : ∃ x, atI es i = some x ∧ x ∈ es := by
  obtain ⟨j, rfl⟩ : ∃ j : Nat, i = j := ⟨i.toNat, by omega⟩
  have hj : j < es.length := by omega
  exact ⟨es[j], atI_nat (List.getElem?_eq_getElem hj), List.getElem_mem hj⟩
def sTB : DSp := fun ds n Q _ => ∃ z xs es, ds = [.bag, z, .tup es] ∧ SqD z (VF.iD xs) ∧ Pz 3 (.tup es) ∧ es.length ≤ 10000 ∧ n ≤ 800000 ∧ ∀ d n', Pz 3 d → n' ≤ n + 4 → Q d n'
theorem pz_app {k : Nat} {a b : List VF.DV} (ha : ∀ d ∈ a, Pz k d) (hb : ∀ d ∈ b, Pz k d) : ∀ d ∈ a ++ b, Pz k d := fun d hd => (List.mem_append.mp hd).elim (ha d) (hb d)
theorem pz_one {k : Nat} {x : VF.DV} (h : Pz k x) : ∀ d ∈ [x], Pz k d := fun d hd => by rw [List.mem_singleton.mp hd]; exact h
theorem pz_c {k : Nat} {d : VF.DV} {ds : List VF.DV} (h : Pz k d) (h2 : ∀ x ∈ ds, Pz k x) : ∀ x ∈ d :: ds, Pz k x := fun x hx => (List.mem_cons.mp hx).elim (fun e => e ▸ h) (h2 x)
theorem pz_e {k : Nat} : ∀ x ∈ ([] : List VF.DV), Pz k x := nofun
section
variable {P : Program} {w : World} {K : PySem.W.Frag} {mg : Str → Option Value} {base : Heap}
theorem sc__law_odd : FnScope ["_law_bag_here", "_law_sizes_here"] ["_law_bag_here", "_law_sizes_here"] (defScope s__law_odd) := ⟨rfl, rfl, rfl, by decide +kernel, rfl, by decide +kernel, by decide +kernel⟩
theorem v__law_odd (T : TT K mg) : FnOk P w K mg base (L2.CX P w) 3 (He.ga K "_law_odd") (fdOf K ("_law_odd", none)) ["_law_bag_here", "_law_sizes_here"] (liftSp K (Cs K) sOdd) := by
  refine v_ok (F__law_odd T) sc__law_odd (by decide) (by decide) ?_ (fun cdv A outer s H W ds n Q' hC hE hr h => ⟨_, (vss_one (vs_ret (ps_ret (ve_call hC hE (pe_call (v__law_of T) (hr.mono (by decide)) (by rfl) (T.glo "_law_of" rfl) (F__law_of T).kp (B__law_of T) .nil (passes_call (takes_of rfl rfl rfl rfl) (fun _ _ _ _ h => h)) (va_cons (ve_var (pv 0)) (va_cons (ve_lst (va_cons (ve_non pe_non) (va_cons (ve_bl pe_bl) (va_cons (ve_bl pe_bl) (va_cons (ve_op op_sub d_I0 (ve_int pe_int) (ve_int pe_int)) (va_cons (ve_int pe_int) (va_cons (ve_int pe_int) (va_cons (ve_cb (pe_callB (call_lenK K) (by rfl) (T.free "len" rfl) boot_len (va_cons (ve_var (pv 1)) va_nil)) d_len) (va_cons (ve_int pe_int) (va_cons (ve_int pe_int) (va_cons (ve_op op_sub d_I0 (ve_int pe_int) (ve_int pe_int)) (va_cons (ve_int pe_int) (va_cons (ve_str pe_str) (va_cons (ve_tup va_nil) (va_cons (ve_tup (va_cons (ve_int pe_int) va_nil)) (va_cons (ve_lst (va_cons (ve_int pe_int) va_nil)) (va_cons (ve_str pe_str) (va_cons (ve_int pe_int) (va_cons (ve_int pe_int) va_nil))))))))))))))))))) va_nil))) (fun _ _ _ => .nil))))), ?_⟩)
  · rintro ds n Q E ⟨z, xs, rfl, _⟩; rfl
  · obtain ⟨z, xs, rfl, hz, hn, hq⟩ := h
    walk_at "vin"
    walk_at "vx"
    refine y_lenS (sq_of hz) ?_
    rw [List.length_map]
    walk_at "vx"
    refine y_of (by omega) (by simp) (by simp) fun i x hx => ?_
    walk_at "vx"
    refine hq x ?_
    have hm := List.mem_of_getElem? hx
    simp only [List.mem_cons, List.not_mem_nil, or_false] at hm
    rcases hm with rfl | rfl | rfl | rfl | rfl | rfl | rfl | rfl | rfl | rfl | rfl | rfl | rfl | rfl | rfl | rfl | rfl | rfl
    all_goals first
      | exact .non
      | exact .bl
      | exact .int
      | exact .str (by decide +kernel)
      | exact .tup pz_e (by decide)
      | exact .tup (pz_one .int) (by decide)
      | exact .lst (pz_one .int) (by decide)
theorem y_odd {z : VF.DV} {xs : List Int} {n : Int} {Q : VF.DV → Int → Prop} {E : XV} (hz : SqD z (VF.iD xs)) (hn : n ≤ 900000) (hq : ∀ d, Pz 1 d → Q d (n + 1)) : sOdd ([.bag, z] ++ []) n Q E := ⟨z, xs, rfl, hz, hn, hq⟩
theorem sc__law_tuple_bent : FnScope ["_law_bag_here", "_law_sizes_here", "_law_some", "_law_way", "_law_spot", "_law_other", "_law_low", "_law_high"] ["_law_bag_here", "_law_sizes_here", "_law_some"] (defScope s__law_tuple_bent) := ⟨rfl, rfl, rfl, by decide +kernel, rfl, by decide +kernel, by decide +kernel⟩
theorem v__law_tuple_bent (T : TT K mg) : FnOk P w K mg base (L2.CX P w) 4 (He.ga K "_law_tuple_bent") (fdOf K ("_law_tuple_bent", none)) ["_law_bag_here", "_law_sizes_here", "_law_some"] (liftSp K (Cs K) sTB) := by
  refine v_ok (F__law_tuple_bent T) sc__law_tuple_bent (by decide) (by decide) ?_ (fun cdv A outer s H W ds n Q' hC hE hr h => ⟨_, (vss_cons (vs_par (ps_par (i := 3) (j := 4) rfl sc__law_tuple_bent.nd rfl rfl (by decide) rfl rfl (va_cons (ve_call hC hE (pe_call (v__law_draw T) (hr.mono (by decide)) (by rfl) (T.glo "_law_draw" rfl) (F__law_draw T).kp (B__law_draw T) .nil pass0 (va_cons (ve_var (pv 0)) (va_cons (ve_int pe_int) va_nil))) (fun _ _ _ => .nil)) (va_cons (ve_call hC hE (pe_call (v__law_draw T) (hr.mono (by decide)) (by rfl) (T.glo "_law_draw" rfl) (F__law_draw T).kp (B__law_draw T) .nil pass0 (va_cons (ve_var (pv 0)) (va_cons (ve_op (op_addD K) d_add (ve_cb (pe_callB (call_lenK K) (by rfl) (T.free "len" rfl) boot_len (va_cons (ve_var (pv 2)) va_nil)) d_len) (ve_int pe_int)) va_nil))) (fun _ _ _ => .nil)) va_nil)) rfl))
  (vss_cons (vs_set (ps_set (i := 5) sc__law_tuple_bent.nd rfl (Or.inl rfl) (ve_call hC hE (pe_call (v__law_draw T) (hr.mono (by decide)) (by rfl) (T.glo "_law_draw" rfl) (F__law_draw T).kp (B__law_draw T) .nil pass0 (va_cons (ve_var (pv 0)) (va_cons (ve_op (op_addD K) d_add (ve_cb (pe_callB (call_lenK K) (by rfl) (T.free "len" rfl) boot_len (va_cons (ve_var (pv 2)) va_nil)) d_len) (ve_int pe_int)) va_nil))) (fun _ _ _ => .nil))))
  (vss_cons (vs_if (vt_cmp op_lt d_IB (ve_var (pv 3)) (ve_int pe_int) (nomark _)) (vss_one (vs_ret (ps_ret (ve_op (op_addD K) d_add (ve_op (op_addD K) d_add (ve_slice (sl_U K) d_sl (ve_var (pv 2)) vo_none (vo_some (ve_var (pv 4)))) (ve_tup (va_cons (ve_call hC hE (pe_call (v__law_odd T) (hr.mono (by decide)) (by rfl) (T.glo "_law_odd" rfl) (F__law_odd T).kp (B__law_odd T) .nil (passes_call (takes_of rfl rfl rfl rfl) (fun _ _ _ _ h => h)) (va_cons (ve_var (pv 0)) (va_cons (ve_var (pv 1)) va_nil))) (fun _ _ _ => .nil)) va_nil))) (ve_slice (sl_U K) d_sl (ve_var (pv 2)) (vo_some (ve_op (op_addD K) d_add (ve_var (pv 4)) (ve_int pe_int))) vo_none))))) vss_nil)
  (vss_cons (vs_if (vt_cmp (op_eqU K hr.units) d_eq (ve_var (pv 3)) (ve_int pe_int) (nomark _)) (vss_one (vs_ret (ps_ret (ve_op (op_addD K) d_add (ve_slice (sl_U K) d_sl (ve_var (pv 2)) vo_none (vo_some (ve_var (pv 4)))) (ve_slice (sl_U K) d_sl (ve_var (pv 2)) (vo_some (ve_op (op_addD K) d_add (ve_var (pv 4)) (ve_int pe_int))) vo_none))))) vss_nil)
  (vss_cons (vs_if (vt_cmp (op_eqU K hr.units) d_eq (ve_var (pv 3)) (ve_int pe_int) (nomark _)) (vss_one (vs_ret (ps_ret (ve_op (op_addD K) d_add (ve_slice (sl_U K) d_sl (ve_var (pv 2)) vo_none (vo_some (ve_var (pv 4)))) (ve_slice (sl_U K) d_sl (ve_var (pv 2)) (vo_some (ve_cb (pe_callB (call_max2 rfl) (by rfl) (T.free "max" rfl) boot_max (va_cons (ve_int pe_int) (va_cons (ve_op op_sub d_I0 (ve_var (pv 4)) (ve_int pe_int)) va_nil))) d_max2)) vo_none))))) vss_nil)
  (vss_cons (vs_if (PW.pt (vw_and (vt_cmp (op_eqU K hr.units) d_eq (ve_var (pv 3)) (ve_int pe_int) (nomark _)) (vw_and1 (vt_cmp op_lt d_IB (ve_cb (pe_callB (call_max2 rfl) (by rfl) (T.free "max" rfl) boot_max (va_cons (ve_var (pv 4)) (va_cons (ve_var (pv 5)) va_nil))) d_max2) (ve_cb (pe_callB (call_lenK K) (by rfl) (T.free "len" rfl) boot_len (va_cons (ve_var (pv 2)) va_nil)) d_len) (nomark _))))) (vss_cons (vs_par (ps_par (i := 6) (j := 7) rfl sc__law_tuple_bent.nd rfl rfl (by decide) rfl rfl (va_cons (ve_cb (pe_callB (call_min2 rfl) (by rfl) (T.free "min" rfl) boot_min (va_cons (ve_var (pv 4)) (va_cons (ve_var (pv 5)) va_nil))) d_min2) (va_cons (ve_cb (pe_callB (call_max2 rfl) (by rfl) (T.free "max" rfl) boot_max (va_cons (ve_var (pv 4)) (va_cons (ve_var (pv 5)) va_nil))) d_max2) va_nil)) rfl))
  (vss_one (vs_ret (ps_ret (ve_if (vt_cmp (op_eqU K hr.units) d_eq (ve_var (pv 6)) (ve_var (pv 7)) (nomark _)) (ve_var (pv 2)) (ve_op (op_addD K) d_add (ve_op (op_addD K) d_add (ve_op (op_addD K) d_add (ve_op (op_addD K) d_add (ve_slice (sl_U K) d_sl (ve_var (pv 2)) vo_none (vo_some (ve_var (pv 6)))) (ve_tup (va_cons (ve_ix (ix_LTK K) d_ix (ve_var (pv 2)) (ve_var (pv 7)) (fun _ _ => rfl)) va_nil))) (ve_slice (sl_U K) d_sl (ve_var (pv 2)) (vo_some (ve_op (op_addD K) d_add (ve_var (pv 6)) (ve_int pe_int))) (vo_some (ve_var (pv 7))))) (ve_tup (va_cons (ve_ix (ix_LTK K) d_ix (ve_var (pv 2)) (ve_var (pv 6)) (fun _ _ => rfl)) va_nil))) (ve_slice (sl_U K) d_sl (ve_var (pv 2)) (vo_some (ve_op (op_addD K) d_add (ve_var (pv 7)) (ve_int pe_int))) vo_none))))))) vss_nil)
  (vss_one (vs_ret (ps_ret (ve_cb (pe_callTy (call_listLTK K) (by rfl) (T.free "list" rfl) boot_list (va_cons (ve_var (pv 2)) va_nil)) d_list)))))))))), ?_⟩)
  · rintro ds n Q E ⟨z, xs, es, rfl, _⟩; rfl
  · obtain ⟨z, xs, es, rfl, hz, hp, hl, hn, hq⟩ := h
    have hm : ∀ d ∈ es, Pz 2 d := hp.of_tup
    have hc : ∀ a b, ∀ d ∈ VF.cutD es a b, Pz 2 d := fun a b d hd => hm d (cut_mem hd)
    walk_at "vin"
    walk_at "vx"
    refine y_draw (by omega) (by omega) (by omega) fun p p0 p1 => ?_
    walk_at "vx"
    refine y_draw (by omega) (by omega) (by omega) fun sp s0 s1 => ?_
    walk_at "vx"
    refine y_draw (by omega) (by omega) (by omega) fun o o0 o1 => ?_
    walk_at "vx"
    by_cases c1 : p < 3
    · rw [decide_eq_true c1]
      walk_at "vx"
      refine y_odd hz (by omega) fun x px => ?_
      walk_at "vx"
      have l1 := cut_len es none (some sp)
      have l2 := cut_len es (some (sp + 1)) none
      refine VF.y_addT (by simp only [List.length_cons, List.length_nil]; omega) ?_
      walk_at "vx"
      refine VF.y_addT (by simp only [List.length_append, List.length_cons, List.length_nil]; omega) ?_
      walk_at "vx"
      exact hq _ _ (.tup (pz_app (pz_app (hc _ _) (pz_one (px.mono (by decide)))) (hc _ _)) (by simp only [List.length_append, List.length_cons, List.length_nil]; omega)) (by omega)
    · rw [decide_eq_false c1]
      walk_at "vx"
      by_cases c2 : p = 3
      · rw [decide_eq_true c2]
        walk_at "vx"
        have l1 := cut_len es none (some sp)
        have l2 := cut_len es (some (sp + 1)) none
        refine VF.y_addT (by omega) ?_
        walk_at "vx"
        exact hq _ _ (.tup (pz_app (hc _ _) (hc _ _)) (by simp only [List.length_append]; omega)) (by omega)
      · rw [decide_eq_false c2]
        walk_at "vx"
        by_cases c3 : p = 4
        · rw [decide_eq_true c3]
          walk_at "vx"
          have l1 := cut_len es none (some sp)
          have l2 := cut_len es (some (max 0 (sp - 1))) none
          refine VF.y_addT (by omega) ?_
          walk_at "vx"
          exact hq _ _ (.tup (pz_app (hc _ _) (hc _ _)) (by simp only [List.length_append]; omega)) (by omega)
        · rw [decide_eq_false c3]
          walk_at "vx"
          have last : ∀ m, m ≤ n + 4 → Q' (.lst es) m := fun m hm2 => hq _ _ (.lst hm (by omega)) hm2
          by_cases c4 : p = 5
          · rw [decide_eq_true c4]
            walk_at "vx"
            by_cases c5 : max sp o < es.length
            · rw [decide_eq_true c5]
              walk_at "vx"
              by_cases c6 : min sp o = max sp o
              · rw [decide_eq_true c6]
                walk_at "vx"
                exact hq _ _ hp (by omega)
              · rw [decide_eq_false c6]
                obtain ⟨u, hu, mu⟩ := atI_int (es := es) (i := max sp o) (by omega) c5
                obtain ⟨v, hv, mv⟩ := atI_int (es := es) (i := min sp o) (by omega) (by omega)
                have l1 := cut_len es none (some (min sp o))
                have l2 := cut_len es (some (min sp o + 1)) (some (max sp o))
                have l3 := cut_len es (some (max sp o + 1)) none
                walk_at "vx"
                refine VF.y_ixT hu ?_
                walk_at "vx"
                refine VF.y_addT (by simp only [List.length_append, List.length_cons, List.length_nil]; omega) ?_
                walk_at "vx"
                refine VF.y_addT (by simp only [List.length_append, List.length_cons, List.length_nil]; omega) ?_
                walk_at "vx"
                refine VF.y_ixT hv ?_
                walk_at "vx"
                refine VF.y_addT (by simp only [List.length_append, List.length_cons, List.length_nil]; omega) ?_
                walk_at "vx"
                refine VF.y_addT (by simp only [List.length_append, List.length_cons, List.length_nil]; omega) ?_
                walk_at "vx"
                exact hq _ _ (.tup (pz_app (pz_app (pz_app (pz_app (hc _ _) (pz_one (hm u mu))) (hc _ _)) (pz_one (hm v mv))) (hc _ _)) (by simp only [List.length_append, List.length_cons, List.length_nil]; omega)) (by omega)
            · rw [decide_eq_false c5]
              walk_at "vx"
              exact last _ (by omega)
          · rw [decide_eq_false c4]
            walk_at "vx"
            exact last _ (by omega)
theorem y_tb {z : VF.DV} {xs : List Int} {es : List VF.DV} {n : Int} {Q : VF.DV → Int → Prop} {E : XV} (hz : SqD z (VF.iD xs)) (hp : Pz 3 (.tup es)) (hl : es.length ≤ 10000) (hn : n ≤ 800000) (hq : ∀ d n', Pz 3 d → n' ≤ n + 4 → Q d n') : sTB ([.bag, z, .tup es] ++ []) n Q E := ⟨z, xs, es, rfl, hz, hp, hl, hn, hq⟩
end
end BF
/-! ## zip of a list and a tuple, or of two tuples -/
namespace GA
open PySem PySem.Spec PyProof.Rows L2
open AutoSeq1 (wpAny_loadPart')
abbrev zm1 (h : Heap) (l1 : Addr) : Heap := h.push { cls := .type "list_iterator", data := .fields #[.ref l1, .int 0 0] }
abbrev zm2 (h : Heap) (l1 l2 : Addr) : Heap := (zm1 h l1).push { cls := .type "tuple_iterator", data := .fields #[.ref l2, .int 0 0] }
abbrev zm3 (h : Heap) (l1 l2 : Addr) : Heap := (zm2 h l1 l2).push { cls := .type "tuple", data := .seq #[.ref h.objs.size, .ref (zm1 h l1).objs.size] }
abbrev zm4 (h : Heap) (l1 l2 : Addr) : Heap := (zm3 h l1 l2).push { cls := .type "tuple", data := .seq #[.none, .none] }
abbrev zm5 (h : Heap) (l1 l2 : Addr) : Heap := (zm4 h l1 l2).push { cls := .type "zip", data := .fields #[.none, .bool false, .bool false, .ref (zm2 h l1 l2).objs.size, .ref (zm3 h l1 l2).objs.size] }
theorem zipM_new (l1 l2 : Addr) (xs ys : Array Value) :
    Meets (Builtin.«zip.__new__» ⟨[.type "zip", .ref l1, .ref l2], []⟩) (fun _ R s => s.heap.IsList l1 xs ∧ s.heap.IsTuple l2 ys ∧
      R (.ok (.ret (.ref (zm4 s.heap l1 l2).objs.size))) { s with heap := zm5 s.heap l1 l2 }) :=
  .of_wp fun prog w A R s h => by
    obtain ⟨hp, g, d, tk, os⟩ := s
    obtain ⟨hl1, hl2, h⟩ := h
    have hsub := sub_zip
    have hL1 : Heap.IsList (Shared.heap ⟨hp, g, d, tk, os⟩) l1 xs := hl1
    have hL2 : Heap.IsTuple (Shared.heap ⟨hp.push { cls := .type "list_iterator", data := .fields #[.ref l1, .int 0 0] }, g, d, tk, os⟩) l2 ys := Heap.IsTuple.push hl2 _
    wp_walk using wpAny_pyIter_list hL1, wpAny_pyIter_tuple hL2
    exact ⟨_, rfl, h⟩
section
variable {prog : Program} {w : World} {A : Around} {E : Value → Shared → Prop} {s : Shared}
theorem call_zipM {l1 l2 : Addr} {xs ys : Array Value} {Q : Value → Shared → Prop} (hl1 : s.heap.IsList l1 xs) (hl2 : s.heap.IsTuple l2 ys)
    (h : ∀ h', IsZip h' (s.heap.objs.size + 4) (s.heap.objs.size + 2) (s.heap.objs.size + 3) .none → IsPair h' (s.heap.objs.size + 2) (.ref s.heap.objs.size) (.ref (s.heap.objs.size + 1)) →
      IsPair h' (s.heap.objs.size + 3) .none .none → h'.IsListIter s.heap.objs.size l1 0 → h'.IsTupleIter (s.heap.objs.size + 1) l2 0 → h'.objs.size = s.heap.objs.size + 5 →
      (∀ c o, s.heap.get? c = some o → h'.get? c = some o) → Q (.ref (s.heap.objs.size + 4)) { s with heap := h' }) :
    wpAny (model prog w) A (call (.type "zip") [.ref l1, .ref l2]) Q E s := by
  refine callType_new F.called_zip (by decide) (F.typeCall_zip_2 _ _) (F.newCall_zip_2 _ _) (fun obj => F.args_object_init_3 obj _ _) F.entry_zip_new (zipM_new l1 l2 xs ys) ⟨hl1, hl2, ?_⟩
  have z1 : (zm1 s.heap l1).objs.size = s.heap.objs.size + 1 := Heap.size_push ..
  have z2 : (zm2 s.heap l1 l2).objs.size = s.heap.objs.size + 2 := by rw [Heap.size_push, z1]
  have z3 : (zm3 s.heap l1 l2).objs.size = s.heap.objs.size + 3 := by rw [Heap.size_push, z2]
  have z4 : (zm4 s.heap l1 l2).objs.size = s.heap.objs.size + 4 := by rw [Heap.size_push, z3]
  have z5 : (zm5 s.heap l1 l2).objs.size = s.heap.objs.size + 5 := by rw [Heap.size_push, z4]
  have up : ∀ {h : Heap} {a : Addr} {o p : Obj}, h.get? a = some o → (h.push p).get? a = some o := fun e => Heap.get?_push_of_some _ e
  have g5 : (zm5 s.heap l1 l2).get? (zm4 s.heap l1 l2).objs.size = some _ := Heap.get?_push_size _ rfl
  have g4 : (zm5 s.heap l1 l2).get? (zm3 s.heap l1 l2).objs.size = some _ := up (Heap.get?_push_size _ rfl)
  have g3 : (zm5 s.heap l1 l2).get? (zm2 s.heap l1 l2).objs.size = some _ := up (up (Heap.get?_push_size _ rfl))
  have g2 : (zm5 s.heap l1 l2).get? (zm1 s.heap l1).objs.size = some _ := up (up (up (Heap.get?_push_size _ rfl)))
  have g1 : (zm5 s.heap l1 l2).get? s.heap.objs.size = some _ := up (up (up (up (Heap.get?_push_size _ rfl))))
  show _ ∧ _
  rw [z2, z3, z4] at g5
  rw [z1, z2] at g3
  rw [z3] at g4
  rw [z1] at g2
  rw [z4]
  exact ⟨⟨_, g5, rfl⟩, h _ g5 g3 g4 ⟨_, g1, rfl, rfl⟩ ⟨_, g2, rfl, rfl⟩ z5 fun c o x => up (up (up (up (up x))))⟩
end
/-- the list at a and the tuple at b as they stand at each turn, the items in new pairs -/
def ItzM (K : PySem.W.Frag) (a b : Addr) : It :=
  ⟨fun i H => ∃ (xs ys : List V) (x y : V), SqL K H a xs ∧ SqT K H b ys ∧ xs[i]? = some x ∧ ys[i]? = some y,
    fun i H v H' => ∃ T x y, v = .ref T ∧ H T = none ∧ H' = upd H T (.tup [x, y]) ∧ (∀ xs, SqL K H a xs → xs[i]? = some x) ∧ ∀ ys, SqT K H b ys → ys[i]? = some y,
    fun i H => ∃ xs ys : List V, SqL K H a xs ∧ SqT K H b ys ∧ xs.length = i ∧ ys.length = i⟩
def StM (z TI TO i1 i2 a b : Addr) (i : Nat) (h : Heap) : Prop := IsZip h z TI TO .none ∧ IsPair h TI (.ref i1) (.ref i2) ∧ (∃ x y, IsPair h TO x y) ∧ h.IsListIter i1 a i ∧ h.IsTupleIter i2 b i
theorem sep_of {z TI TO i1 i2 a b : Addr} (D : ZipApart z TI TO i1 i2 a b) : ZipSep2 z TI TO i1 i2 [i1, a] [i2, b] := by
  constructor
  · exact D.TIz
  · exact D.TOz
  · exact D.TITO
  · exact D.TIi1
  · simp
  · simp [D.i1z.symm, D.l1z.symm]
  · simp [D.TOi1, D.l1TO.symm]
  · exact D.TIi2
  · simp
  · simp [D.i2z.symm, D.l2z.symm]
  · simp [D.TOi2, D.l2TO.symm]
  · simp [D.i12, D.l2i1.symm]
  · simp [D.i12.symm, D.l1i2.symm]
theorem turn_zipM {P : Program} {w : World} {K : PySem.W.Frag} {elts : List Expr} {kk : Nat} {tpos : Pos} {a b z TI TO i1 i2 : Addr} (D : ZipApart z TI TO i1 i2 a b) :
    Turn P w K (.Tuple elts kk tpos) (ItzM K a b) [z, TI, TO, i1, i2] z (StM z TI TO i1 i2 a b) where
  mem := by simp
  obj := fun i h st c hc => by
    obtain ⟨hz, hTI, ⟨x, y, hTO⟩, ⟨o1, e1, _, d1⟩, ⟨o2, e2, _, d2⟩⟩ := st
    have e' : c = z ∨ c = TI ∨ c = TO ∨ c = i1 ∨ c = i2 := by simpa using hc
    rcases e' with q | q | q | q | q
    · rw [q]; exact ⟨_, hz, fun v q => nomatch q⟩
    · rw [q]; exact ⟨_, hTI, fun v q => nomatch q⟩
    · rw [q]; exact ⟨_, hTO, fun v q => nomatch q⟩
    · rw [q]; exact ⟨o1, e1, fun v q => by rw [d1] at q; cases q⟩
    · rw [q]; exact ⟨o2, e2, fun v q => by rw [d2] at q; cases q⟩
  keep := fun i h h' st k => by
    obtain ⟨hz, hTI, ⟨x, y, hTO⟩, h1, h2⟩ := st
    exact ⟨k z (by simp) _ hz, k TI (by simp) _ hTI, ⟨x, y, k TO (by simp) _ hTO⟩, h1.at fun o q => k i1 (by simp) o q, h2.at fun o q => k i2 (by simp) o q⟩
  item := by
    intro X hP hw hK hc i pins s σ H E I hf st hg
    subst hP hw hK
    obtain ⟨hz, hTI, ⟨x0, y0, hTO⟩, h1, h2⟩ := st
    obtain ⟨xs, ys, x, y, hqx, hqy, hx, hy⟩ := hg
    obtain ⟨its, rv, p, _⟩ := I.list hqx
    obtain ⟨its2, rv2, p2, _⟩ := I.tuple hqy
    obtain ⟨u, hu, ru⟩ := rv.get hx
    obtain ⟨u2, hu2, ru2⟩ := rv2.get hy
    have hzl : z < s.heap.objs.size := Heap.lt_size hz
    have hlt1 : i < its.toArray.size := by
      have := (List.getElem?_eq_some_iff.mp hu).1
      simpa using this
    have hlt2 : i < its2.toArray.size := by
      have := (List.getElem?_eq_some_iff.mp hu2).1
      simpa using this
    refine wpAny_pyNext_zipD2_item (sep_of D) (Draws.list (A := X.A.in1) (show X.A.in1.handled = none from I.ok.hd hc) i1 a D.l1i1 its.toArray) (Draws.tuple (A := X.A.in1) (show X.A.in1.handled = none from I.ok.hd hc) i2 b D.l2i2 its2.toArray)
      hz hTI hTO ⟨h1, p.isList⟩ ⟨h2, p2⟩ hlt1 hlt2 fun x1 x2 h' tk ex1 ex2 z' TO' st1 st2 hT hsz hk => ?_
    have e1 : x1 = u := by
      have : its.toArray[i]? = some u := by simpa using hu
      rw [this] at ex1
      exact (Option.some.inj ex1).symm
    have e2 : x2 = u2 := by
      have : its2.toArray[i]? = some u2 := by simpa using hu2
      rw [this] at ex2
      exact (Option.some.inj ex2).symm
    subst e1 e2
    refine ⟨_, rfl, wpAny_letOwnedTupleGo_zip (s := { s with heap := h', toks := tk }) z' fun h'' z'' sb => ?_⟩
    have hT2 : h''.get? s.heap.objs.size = some { cls := .type "tuple", data := .seq #[x1, x2] } := (sb.2 _ (Nat.ne_of_gt hzl)).trans hT
    have new : ObjOk X.prog X.w (upd H s.heap.objs.size (.tup [x, y])) h'' s.heap.objs.size (.tup [x, y]) :=
      ⟨by show 2 ≤ sizeLine; decide, [x1, x2], .cons ru (.cons ru2 .nil), ⟨_, hT2, rfl, _, rfl⟩⟩
    have I1 : Inv X pins σ (upd H s.heap.objs.size (.tup [x, y])) { s with heap := h'', toks := tk } :=
      I.turnedNew (t' := tk) (ch := [z, TI, TO, i1, i2]) (fun c o hb q => (sb.2 c (fun q' => hb (by simp [q']))).trans (hk c o (fun q' => hb (by simp [q'])) (fun q' => hb (by simp [q'])) (fun q' => hb (by simp [q'])) (fun q' => hb (by simp [q'])) q)) hf (Nat.le_refl _) new
    refine ⟨.ref s.heap.objs.size, _, I1, rfl, ⟨_, x, y, rfl, I.hok.fresh (Nat.le_refl _), rfl, fun l hl => by rw [I.list_inj hl hqx]; exact hx, fun l hl => by rw [I.tuple_inj hl hqy]; exact hy⟩, ⟨z'', ?_, ⟨x1, x2, ?_⟩, ?_, ?_⟩, fun c hcm => ?_⟩
    · exact (sb.2 _ D.TIz).trans (hk _ _ D.TIz D.TITO D.TIi1 D.TIi2 hTI)
    · exact (sb.2 _ D.TOz).trans TO'
    · exact st1.1.at fun o q => (sb.2 _ D.i1z).trans q
    · exact st2.1.at fun o q => (sb.2 _ D.i2z).trans q
    · have hlt : c < s.heap.objs.size := by
        have e' : c = z ∨ c = TI ∨ c = TO ∨ c = i1 ∨ c = i2 := by simpa using hcm
        rcases e' with q | q | q | q | q
        · rw [q]; exact hzl
        · rw [q]; exact Heap.lt_size hTI
        · rw [q]; exact Heap.lt_size hTO
        · rw [q]; obtain ⟨_, e1, _⟩ := h1; exact Heap.lt_size e1
        · rw [q]; obtain ⟨_, e2, _⟩ := h2; exact Heap.lt_size e2
      rw [upd_ne (Nat.ne_of_lt hlt)]
      exact (hf c hcm).1
  done := by
    intro X hP hw hK hc i pins s σ H E I hf st hg
    subst hP hw hK
    obtain ⟨hz, hTI, ⟨x0, y0, hTO⟩, h1, h2⟩ := st
    obtain ⟨xs, ys, hqx, hqy, c1, c2⟩ := hg
    obtain ⟨its, rv, p, _⟩ := I.list hqx
    obtain ⟨its2, rv2, p2, _⟩ := I.tuple hqy
    have l1 : i = its.toArray.size := by have := rv.length; simp; omega
    have l2 : i = its2.toArray.size := by have := rv2.length; simp; omega
    exact wpAny_pyNext_zipD2_end (sep_of D) (Draws.list (A := X.A.in1) (show X.A.in1.handled = none from I.ok.hd hc) i1 a D.l1i1 its.toArray) (Draws.tuple (A := X.A.in1) (show X.A.in1.handled = none from I.ok.hd hc) i2 b D.l2i2 its2.toArray)
      hz hTI hTO ⟨h1, p.isList⟩ ⟨h2, p2⟩ (Nat.le_of_eq l1) (Nat.le_of_eq l2) (.inl l1) fun h' tk hk => ⟨rfl, I.turnedL (t' := tk) (ch := [z, TI, TO, i1, i2]) (fun c o hb q => hk c o (fun q' => hb (by simp [q'])) (fun q' => hb (by simp [q'])) (fun q' => hb (by simp [q'])) (fun q' => hb (by simp [q'])) q) hf⟩
  self := fun A i s Q E st h => wpAny_pyIter_zip st.1 h
/-- zip(x, t), x a list or a tuple -/
def iZipM (K : PySem.W.Frag) (ta : TA) : TI := fun σ H R => ta σ H fun vs H1 => ∃ a b xs ys, vs = [.ref a, .ref b] ∧ ((SqL K H1 a xs ∧ SqT K H1 b ys ∧ R (ItzM K a b) H1) ∨ (SqT K H1 a xs ∧ SqT K H1 b ys ∧ R (RZ.ItzT K a b) H1))
theorem pi_zipM {X : Cx} {e e2 : Expr} {ta : TA} {p pos tpos : Pos} {elts : List Expr} {kk : Nat} (hg : Gl X "zip") (hm : X.mg "zip" = none) (ha : PA X [e, e2] ta)
    (hs : starEach [e, e2] X.env = (false, eval e X.env) :: starEach [e2] X.env := by rfl) (hpl : (backTo pos (starEach [e2] X.env)).any (·.1) = false := by rfl) :
    PI X (.Tuple elts kk tpos) (.Call (.Name "zip" p) [e, e2] [] pos) (iZipM X.K ta) := by
  refine ⟨fun pins s σ H R I h => ?_⟩
  refine Call_ (ld_blt I hg hm PyProof.Rows.boot_zip (PyProof.Rows.callWith_type1 (thn (ha.run pos pins s σ H _ I h) fun us s1 ⟨vs, H1, I1, r1, q1⟩ => ?_) hs hpl))
  obtain ⟨a, b, xs, ys, ex, q1⟩ := q1
  subst ex
  cases r1 with
  | cons r rr =>
    cases rr with
    | cons r' rr =>
      cases rr
      cases r
      cases r'
      have fr : ∀ c, c ∈ [s1.heap.objs.size + 4, s1.heap.objs.size + 2, s1.heap.objs.size + 3, s1.heap.objs.size, s1.heap.objs.size + 1] → FpOk X pins H1 c := fun c hcm => by
        have hle : s1.heap.objs.size ≤ c := by
          simp only [List.mem_cons, List.not_mem_nil, or_false] at hcm
          rcases hcm with z | z | z | z | z <;> rw [z] <;> first | exact Nat.le_add_right _ _ | exact Nat.le_refl _
        exact I1.fpOk hle (I1.hok.fresh hle)
      rcases q1 with ⟨hqx, hqy, q⟩ | ⟨hqx, hqy, q⟩
      · obtain ⟨its, rv, p1, _⟩ := I1.list hqx
        obtain ⟨its2, rv2, p2, _⟩ := I1.tuple hqy
        obtain ⟨o2, ho2, _⟩ := id p2
        refine call_zipM p1.isList (show s1.heap.IsTuple b its2.toArray from p2) fun h' hz hTI hTO h1 h2 hsz hk => wpAny_pyIter_zip hz ?_
        have I2 : Inv X pins σ H1 { s1 with heap := h' } := I1.kept (t' := s1.toks) hk
        exact ⟨s1.heap.objs.size + 4, [s1.heap.objs.size + 4, s1.heap.objs.size + 2, s1.heap.objs.size + 3, s1.heap.objs.size, s1.heap.objs.size + 1], _, _, H1, rfl, I2, turn_zipM (PySem.W.ktu_apart s1.heap.objs.size a b p1.lt (Heap.lt_size ho2)), ⟨hz, hTI, ⟨_, _, hTO⟩, h1, h2⟩, fr, q⟩
      · obtain ⟨its, rv, p1, _⟩ := I1.tuple hqx
        obtain ⟨its2, rv2, p2, _⟩ := I1.tuple hqy
        obtain ⟨o1, ho1, _⟩ := id p1
        obtain ⟨o2, ho2, _⟩ := id p2
        refine RZ.call_zipT (show s1.heap.IsTuple a its.toArray from p1) (show s1.heap.IsTuple b its2.toArray from p2) fun h' hz hTI hTO h1 h2 hsz hk => wpAny_pyIter_zip hz ?_
        have I2 : Inv X pins σ H1 { s1 with heap := h' } := I1.kept (t' := s1.toks) hk
        exact ⟨s1.heap.objs.size + 4, [s1.heap.objs.size + 4, s1.heap.objs.size + 2, s1.heap.objs.size + 3, s1.heap.objs.size, s1.heap.objs.size + 1], _, _, H1, rfl, I2, RZ.turn_zipT (PySem.W.ktu_apart s1.heap.objs.size a b (Heap.lt_size ho1) (Heap.lt_size ho2)), ⟨hz, hTI, ⟨_, _, hTO⟩, h1, h2⟩, fr, q⟩
theorem walk_zipM {K : PySem.W.Frag} {a b : Addr} {xs ys : List V} {n : Nat} (hx : xs.length = n) (hy : ys.length = n) : Walk (ItzM K a b) n (fun H => SqL K H a xs ∧ SqT K H b ys) (YPair (fun i => xs[i]?) (fun i => ys[i]?)) :=
  ⟨fun i _ hi q => ⟨xs, ys, xs[i], ys[i], q.1, q.2, by simp [hx, hi], by simp [hy, hi]⟩, fun _ q => ⟨xs, ys, q.1, q.2, hx, hy⟩, fun i H v H' _ q y => by
    obtain ⟨T, x, z, h1, h2, h3, h4, h5⟩ := y
    exact ⟨T, x, z, h1, h2, h3, h4 xs q.1, h5 ys q.2⟩⟩
end GA
namespace VF
open PySem PySem.Spec PyProof.Rows L2
section
variable {K : PySem.W.Frag} {W : Wc} {X : Cx} {tg e : Expr} {wr : WA}
/-- zip(x, t): as many items in both -/
def wZipM (wr : WA) : WA := fun τ n Q => wr τ n fun ds τ1 n1 => ∃ xs ys, xs.length = ys.length ∧ (ds = [.lst xs, .tup ys] ∨ ds = [.tup xs, .tup ys]) ∧ Q (zipD xs ys) τ1 n1
theorem vi_zipM (h : PI X tg e (GA.iZipM K (liftA K W wr))) : PI X tg e (liftI K W (wZipM wr)) := PI.imp h fun σ H R ⟨Γ, O, τ, n, Q', q, hw, k⟩ => ⟨Γ, O, τ, n, _, q, hw, fun vs H1 ds O1 τ1 n1 q1 d1 ⟨xs, ys, el, ed, hq⟩ => by
  rcases ed with ed | ed
  · subst ed
    cases d1 with
    | cons h1 h2 =>
      cases h2 with
      | cons h2 h3 =>
        cases h3
        cases h1 with
        | @lst a us _ a1 a2 =>
          cases h2 with
          | @tup c ws _ b1 b2 =>
            refine ⟨a, c, us, ws, rfl, .inl ⟨SqL.of a1.1, b1.1, k _ H1 [.l a us xs, .t c ws ys] _ O1 τ1 n1 ((q1.gcons (g := .t c ws ys) ⟨b1, b2⟩).gcons ⟨a1, a2⟩) ⟨_, _, GA.walk_zipM (by rw [zipD_len, a2.length]; omega) (by rw [zipD_len, b2.length]; omega), fun O M H g => ⟨SqL.of (g (.l a us xs) (by simp)).1.1, (g (.t c ws ys) (by simp)).1.1⟩, fun O M H i x H' g al hi y => ?_⟩ hq⟩⟩
            obtain ⟨T, x, z, rfl, y2, y3, y4, y5⟩ := y
            obtain ⟨d, e1, e2⟩ := (g (.l a us xs) (by simp)).2.get y4
            obtain ⟨f, f1, f2⟩ := (g (.t c ws ys) (by simp)).2.get y5
            obtain ⟨p1, p2⟩ := pair_dat al y2 y3 e2 f2
            exact ⟨p1, _, by simp [zipD, List.getElem?_zipWith, e1, f1], p2⟩
  · subst ed
    cases d1 with
    | cons h1 h2 =>
      cases h2 with
      | cons h2 h3 =>
        cases h3
        cases h1 with
        | @tup a us _ a1 a2 =>
          cases h2 with
          | @tup c ws _ b1 b2 =>
            refine ⟨a, c, us, ws, rfl, .inr ⟨a1.1, b1.1, k _ H1 [.t a us xs, .t c ws ys] _ O1 τ1 n1 ((q1.gcons (g := .t c ws ys) ⟨b1, b2⟩).gcons ⟨a1, a2⟩) ⟨_, _, BF.walk_zipT (by rw [zipD_len, a2.length, b2.length]), fun O M H g => ⟨(g (.t a us xs) (by simp)).1.1, (g (.t c ws ys) (by simp)).1.1⟩, fun O M H i x H' g al hi y => ?_⟩ hq⟩⟩
            obtain ⟨T, x, z, rfl, y2, y3, y4, y5⟩ := y
            obtain ⟨d, e1, e2⟩ := (g (.t a us xs) (by simp)).2.get y4
            obtain ⟨f, f1, f2⟩ := (g (.t c ws ys) (by simp)).2.get y5
            obtain ⟨p1, p2⟩ := pair_dat al y2 y3 e2 f2
            exact ⟨p1, _, by simp [zipD, List.getElem?_zipWith, e1, f1], p2⟩⟩
theorem y_zipM {τ : ST} {n : Int} {Q : List DV → ST → Int → Prop} (k : wr τ n fun ds τ1 n1 => ∃ xs ys, xs.length = ys.length ∧ (ds = [.lst xs, .tup ys] ∨ ds = [.tup xs, .tup ys]) ∧ Q (zipD xs ys) τ1 n1) : wZipM wr τ n Q := k
end
end VF
/-! ## A deed bent -/
namespace BF
open PySem PySem.Spec PyProof.Rows L2 VF
def sBent : DSp := fun ds n Q _ => ∃ z xs D, ds = [.bag, z, dD D] ∧ SqD z (VF.iD xs) ∧ SzS xs ∧ DdOk xs D ∧ n ≤ 700000 ∧ ∀ d n', Pz 4 d → n' ≤ n + 9 → Q d n'
theorem pz_iD {ns : List Int} : ∀ d ∈ VF.iD ns, Pz 0 d := fun d hd => by
  obtain ⟨i, _, rfl⟩ := List.mem_map.mp hd
  exact .int
theorem pz_rD {r : Int × Int} : Pz 1 (rD r) := .tup (fun d hd => by
  rcases List.mem_cons.mp hd with rfl | hd
  · exact .int
  · rw [List.mem_singleton.mp hd]; exact .int) (by simp)
theorem pz_rDs {rs : List (Int × Int)} : ∀ d ∈ rs.map rD, Pz 1 d := fun d hd => by
  obtain ⟨r, _, rfl⟩ := List.mem_map.mp hd
  exact pz_rD
theorem tab_len {xs : List Int} {t : Int} {rs : List (Int × Int)} {tab : List Int} (hs : SzS xs) (h : DdOk xs (.ad t rs tab)) : tab.length ≤ 729 := by
  obtain ⟨t0, t1, r3, ro, _, hl, _⟩ := h
  have := (rs_prod hs r3 ⟨t0, by omega⟩ ro).2
  omega
theorem lay_move : (PyData.str "move").canLay0 = true := by decide +kernel
theorem lay_swap : (PyData.str "swap").canLay0 = true := by decide +kernel
theorem lay_add : (PyData.str "add").canLay0 = true := by decide +kernel
theorem pz_dD {xs : List Int} {D : Dd} (hs : SzS xs) (h : DdOk xs D) : Pz 3 (dD D) := by
  cases D with
  | mv t x => exact .tup (pz_c (.str lay_move) (pz_c .int (pz_c .int pz_e))) (by simp)
  | sw ns =>
    have h1 : (ns.length : Int) = prod xs := h.1
    have := hs.2.1
    exact .tup (pz_c (.str lay_swap) (pz_c ((Pz.tup pz_iD (by rw [List.length_map]; omega)).mono (by decide)) pz_e)) (by simp)
  | ad t rs tab =>
    have l1 := tab_len hs h
    have l2 := h.2.2.1
    exact .tup (pz_c (.str lay_add) (pz_c .int (pz_c (.tup pz_rDs (by rw [List.length_map]; omega)) (pz_c ((Pz.tup pz_iD (by rw [List.length_map]; omega)).mono (by decide)) pz_e)))) (by simp)
/-- the items of a deed -/
theorem dD_items {xs : List Int} {D : Dd} (hs : SzS xs) (h : DdOk xs D) : ∃ (q : Str) (t : VF.DV) (r : List VF.DV), dD D = .tup (.str q :: t :: r) ∧ r.length ≤ 2 ∧ (∀ x ∈ (VF.DV.str q :: t :: r : List VF.DV), (∃ i, x = .int i) ∨ (∃ s, x = .str s) ∨ ∃ fs, x = .tup fs ∧ fs.length ≤ 729) ∧
    (q = "add" → ∃ (i : Int) (rs : List (Int × Int)) (y : VF.DV), t = .int i ∧ r = [.tup (rs.map rD), y] ∧ rs.length ≤ 3) := by
  cases D with
  | mv t x => exact ⟨"move", .int t, [.int x], rfl, by simp, by simp, fun e => absurd e (by decide +kernel)⟩
  | sw ns =>
    have h1 : (ns.length : Int) = prod xs := h.1
    have := hs.2.1
    exact ⟨"swap", .tup (VF.iD ns), [], rfl, by simp, by simp; omega, fun e => absurd e (by decide +kernel)⟩
  | ad t rs tab =>
    have l1 := tab_len hs h
    have l2 := h.2.2.1
    exact ⟨"add", .int t, [.tup (rs.map rD), .tup (VF.iD tab)], rfl, by simp, by simp; omega, fun _ => ⟨t, rs, _, rfl, rfl, l2⟩⟩
section
variable {P : Program} {w : World} {K : PySem.W.Frag} {mg : Str → Option Value} {base : Heap}
theorem sc__law_bent : FnScope ["_law_bag_here", "_law_sizes_here", "_law_deed_here", "_law_k", "_law_inner", "_law_j", "_law_pair"] ["_law_bag_here", "_law_sizes_here", "_law_deed_here"] (defScope s__law_bent) := ⟨rfl, rfl, rfl, by decide +kernel, rfl, by decide +kernel, by decide +kernel⟩
theorem v__law_bent (T : TT K mg) : FnOk P w K mg base (L2.CX P w) 5 (He.ga K "_law_bent") (fdOf K ("_law_bent", none)) ["_law_bag_here", "_law_sizes_here", "_law_deed_here"] (liftSp K (Cs K) sBent) := by
  refine v_ok (F__law_bent T) sc__law_bent (by decide) (by decide) ?_ (fun cdv A outer s H W ds n Q' hC hE hr h => ⟨_, (vss_cons (vs_set (ps_set (i := 3) sc__law_bent.nd rfl (Or.inl rfl) (ve_call hC hE (pe_call (v__law_draw T) (hr.mono (by decide)) (by rfl) (T.glo "_law_draw" rfl) (F__law_draw T).kp (B__law_draw T) .nil pass0 (va_cons (ve_var (pv 0)) (va_cons (ve_op (op_addD K) d_add (ve_cb (pe_callB (call_lenK K) (by rfl) (T.free "len" rfl) boot_len (va_cons (ve_var (pv 2)) va_nil)) d_len) (ve_int pe_int)) va_nil))) (fun _ _ _ => .nil))))
  (vss_cons (vs_if (vt_cmp (op_eqU K hr.units) d_eq (ve_var (pv 3)) (ve_cb (pe_callB (call_lenK K) (by rfl) (T.free "len" rfl) boot_len (va_cons (ve_var (pv 2)) va_nil)) d_len) (nomark _)) (vss_one (vs_ret (ps_ret (ve_call hC hE (pe_call (v__law_tuple_bent T) (hr.mono (by decide)) (by rfl) (T.glo "_law_tuple_bent" rfl) (F__law_tuple_bent T).kp (B__law_tuple_bent T) .nil (passes_call (takes_of rfl rfl rfl rfl) (fun _ _ _ _ h => h)) (va_cons (ve_var (pv 0)) (va_cons (ve_var (pv 1)) (va_cons (ve_var (pv 2)) va_nil)))) (fun _ _ _ => .nil))))) vss_nil)
  (vss_cons (vs_if (PW.pt (vw_or (vt_not (vt_val (ve_cb (pe_callB (call_isiK' K) (by rfl) (T.free "isinstance" rfl) boot_isinstance (va_cons (ve_ix (ix_LTK K) d_ix (ve_var (pv 2)) (ve_var (pv 3)) (fun _ _ => rfl)) (va_cons (ve_ty (pe_bltn (v := .ty "tuple") (by rfl) (T.free "tuple" rfl) boot_tuple rfl)) va_nil))) d_isi))) (vw_or1 (vt_cmp (op_eqU K hr.units) d_eq (ve_call hC hE (pe_call (v__law_draw T) (hr.mono (by decide)) (by rfl) (T.glo "_law_draw" rfl) (F__law_draw T).kp (B__law_draw T) .nil pass0 (va_cons (ve_var (pv 0)) (va_cons (ve_int pe_int) va_nil))) (fun _ _ _ => .nil)) (ve_int pe_int) (nomark _))))) (vss_one (vs_ret (ps_ret (ve_op (op_addD K) d_add (ve_op (op_addD K) d_add (ve_slice (sl_U K) d_sl (ve_var (pv 2)) vo_none (vo_some (ve_var (pv 3)))) (ve_tup (va_cons (ve_call hC hE (pe_call (v__law_odd T) (hr.mono (by decide)) (by rfl) (T.glo "_law_odd" rfl) (F__law_odd T).kp (B__law_odd T) .nil (passes_call (takes_of rfl rfl rfl rfl) (fun _ _ _ _ h => h)) (va_cons (ve_var (pv 0)) (va_cons (ve_var (pv 1)) va_nil))) (fun _ _ _ => .nil)) va_nil))) (ve_slice (sl_U K) d_sl (ve_var (pv 2)) (vo_some (ve_op (op_addD K) d_add (ve_var (pv 3)) (ve_int pe_int))) vo_none))))) vss_nil)
  (vss_cons (vs_set (ps_set (i := 4) sc__law_bent.nd rfl (Or.inl rfl) (ve_ix (ix_LTK K) d_ix (ve_var (pv 2)) (ve_var (pv 3)) (fun _ _ => rfl))))
  (vss_cons (vs_if (PW.pt (vw_and (vt_cmp (op_eqU K hr.units) d_eq (ve_ix (ix_LTK K) d_ix (ve_var (pv 2)) (ve_int pe_int) (fun _ _ => rfl)) (ve_str pe_str) (nomark _)) (vw_and (vt_cmp (op_eqU K hr.units) d_eq (ve_var (pv 3)) (ve_int pe_int) (nomark _)) (vw_and (vt_cmp op_gt d_IB (ve_cb (pe_callB (call_lenK K) (by rfl) (T.free "len" rfl) boot_len (va_cons (ve_var (pv 4)) va_nil)) d_len) (ve_int pe_int) (nomark _)) (vw_and1 (vt_cmp (op_eqU K hr.units) d_eq (ve_call hC hE (pe_call (v__law_draw T) (hr.mono (by decide)) (by rfl) (T.glo "_law_draw" rfl) (F__law_draw T).kp (B__law_draw T) .nil pass0 (va_cons (ve_var (pv 0)) (va_cons (ve_int pe_int) va_nil))) (fun _ _ _ => .nil)) (ve_int pe_int) (nomark _))))))) (vss_cons (vs_set (ps_set (i := 5) sc__law_bent.nd rfl (Or.inl rfl) (ve_call hC hE (pe_call (v__law_draw T) (hr.mono (by decide)) (by rfl) (T.glo "_law_draw" rfl) (F__law_draw T).kp (B__law_draw T) .nil pass0 (va_cons (ve_var (pv 0)) (va_cons (ve_cb (pe_callB (call_lenK K) (by rfl) (T.free "len" rfl) boot_len (va_cons (ve_var (pv 4)) va_nil)) d_len) va_nil))) (fun _ _ _ => .nil))))
  (vss_cons (vs_set (ps_set (i := 6) sc__law_bent.nd rfl (Or.inl rfl) (ve_call hC hE (pe_call (v__law_of T) (hr.mono (by decide)) (by rfl) (T.glo "_law_of" rfl) (F__law_of T).kp (B__law_of T) .nil (passes_call (takes_of rfl rfl rfl rfl) (fun _ _ _ _ h => h)) (va_cons (ve_var (pv 0)) (va_cons (ve_lst (va_cons (ve_tup (va_cons (ve_ix (ix_LTK K) d_ix (ve_var (pv 2)) (ve_int pe_int) (fun _ _ => rfl)) (va_cons (ve_int pe_int) va_nil))) (va_cons (ve_tup (va_cons (ve_ix (ix_LTK K) d_ix (ve_ix (ix_LTK K) d_ix (ve_var (pv 4)) (ve_var (pv 5)) (fun _ _ => rfl)) (ve_int pe_int) (fun _ _ => rfl)) (va_cons (ve_int pe_int) va_nil))) (va_cons (ve_tup (va_cons (ve_ix (ix_LTK K) d_ix (ve_ix (ix_LTK K) d_ix (ve_var (pv 4)) (ve_var (pv 5)) (fun _ _ => rfl)) (ve_int pe_int) (fun _ _ => rfl)) (va_cons (ve_op op_sub d_I0 (ve_int pe_int) (ve_int pe_int)) va_nil))) (va_cons (ve_cb (pe_callTy (call_listLTK K) (by rfl) (T.free "list" rfl) boot_list (va_cons (ve_ix (ix_LTK K) d_ix (ve_var (pv 4)) (ve_var (pv 5)) (fun _ _ => rfl)) va_nil)) d_list) (va_cons (ve_op (op_addD K) d_add (ve_ix (ix_LTK K) d_ix (ve_var (pv 4)) (ve_var (pv 5)) (fun _ _ => rfl)) (ve_tup (va_cons (ve_int pe_int) va_nil))) (va_cons (ve_tup (va_cons (ve_cb (pe_callB (call_lenK K) (by rfl) (T.free "len" rfl) boot_len (va_cons (ve_var (pv 1)) va_nil)) d_len) (va_cons (ve_int pe_int) va_nil))) (va_cons (ve_tup (va_cons (ve_ix (ix_LTK K) d_ix (ve_ix (ix_LTK K) d_ix (ve_var (pv 4)) (ve_var (pv 5)) (fun _ _ => rfl)) (ve_int pe_int) (fun _ _ => rfl)) (va_cons (ve_bl pe_bl) va_nil))) (va_cons (ve_ix (ix_LTK K) d_ix (ve_var (pv 4)) (ve_int pe_int) (fun _ _ => rfl)) (va_cons (ve_tup (va_cons (ve_op op_sub d_I0 (ve_int pe_int) (ve_int pe_int)) (va_cons (ve_int pe_int) va_nil))) va_nil)))))))))) va_nil))) (fun _ _ _ => .nil))))
  (vss_one (vs_ret (ps_ret (ve_op (op_addD K) d_add (ve_op (op_addD K) d_add (ve_slice (sl_U K) d_sl (ve_var (pv 2)) vo_none (vo_some (ve_int pe_int))) (ve_tup (va_cons (ve_op (op_addD K) d_add (ve_op (op_addD K) d_add (ve_slice (sl_U K) d_sl (ve_var (pv 4)) vo_none (vo_some (ve_var (pv 5)))) (ve_tup (va_cons (ve_var (pv 6)) va_nil))) (ve_slice (sl_U K) d_sl (ve_var (pv 4)) (vo_some (ve_op (op_addD K) d_add (ve_var (pv 5)) (ve_int pe_int))) vo_none)) va_nil))) (ve_slice (sl_U K) d_sl (ve_var (pv 2)) (vo_some (ve_int pe_int)) vo_none))))))) vss_nil)
  (vss_one (vs_ret (ps_ret (ve_op (op_addD K) d_add (ve_op (op_addD K) d_add (ve_slice (sl_U K) d_sl (ve_var (pv 2)) vo_none (vo_some (ve_var (pv 3)))) (ve_tup (va_cons (ve_call hC hE (pe_call (v__law_tuple_bent T) (hr.mono (by decide)) (by rfl) (T.glo "_law_tuple_bent" rfl) (F__law_tuple_bent T).kp (B__law_tuple_bent T) .nil (passes_call (takes_of rfl rfl rfl rfl) (fun _ _ _ _ h => h)) (va_cons (ve_var (pv 0)) (va_cons (ve_var (pv 1)) (va_cons (ve_var (pv 4)) va_nil)))) (fun _ _ _ => .nil)) va_nil))) (ve_slice (sl_U K) d_sl (ve_var (pv 2)) (vo_some (ve_op (op_addD K) d_add (ve_var (pv 3)) (ve_int pe_int))) vo_none)))))))))), ?_⟩)
  · rintro ds n Q E ⟨z, xs, D, rfl, _⟩; rfl
  · obtain ⟨z, xs, D, rfl, hz, hs, ok, hn, hq⟩ := h
    have hp := pz_dD hs ok
    obtain ⟨q, t, r, e, hl, hi, ha⟩ := dD_items hs ok
    rw [e] at hp ⊢
    generalize hes : (VF.DV.str q :: t :: r : List VF.DV) = es at hp hi ⊢
    have it0 : atI es 0 = some (.str q) := by rw [← hes]; exact atI_nat (j := 0) rfl
    have it1 : atI es 1 = some t := by rw [← hes]; exact atI_nat (j := 1) rfl
    have hle : es.length ≤ 4 := by rw [← hes]; simp; omega
    have hm : ∀ d ∈ es, Pz 2 d := hp.of_tup
    have hc : ∀ a b, ∀ d ∈ VF.cutD es a b, Pz 3 d := fun a b d hd => (hm d (cut_mem hd)).mono (by decide)
    walk_at "vin"
    walk_at "vx"
    refine y_draw (by omega) (by omega) (by omega) fun k k0 k1 => ?_
    walk_at "vx"
    by_cases c1 : k = es.length
    · rw [decide_eq_true c1]
      walk_at "vx"
      refine y_tb hz hp (by omega) (by omega) fun d n' pd hn' => ?_
      walk_at "vx"
      exact hq d n' (pd.mono (by decide)) (by omega)
    · rw [decide_eq_false c1]
      obtain ⟨x, hx, mx⟩ := atI_int (es := es) (i := k) k0 (by omega)
      have l1 := cut_len es none (some k)
      have l2 := cut_len es (some (k + 1)) none
      walk_at "vx"
      refine VF.y_ixT hx ?_
      rcases hi x mx with ⟨i, rfl⟩ | ⟨u, rfl⟩ | ⟨fs, rfl, hfl⟩
      · walk_at "vx"
        refine y_odd hz (by omega) fun x px => ?_
        walk_at "vx"
        refine VF.y_addT (by simp only [List.length_cons, List.length_nil]; omega) ?_
        walk_at "vx"
        refine VF.y_addT (by simp only [List.length_append, List.length_cons, List.length_nil]; omega) ?_
        walk_at "vx"
        exact hq _ _ (.tup (pz_app (pz_app (hc _ _) (pz_one (px.mono (by decide)))) (hc _ _)) (by simp only [List.length_append, List.length_cons, List.length_nil]; omega)) (by omega)
      · walk_at "vx"
        refine y_odd hz (by omega) fun x px => ?_
        walk_at "vx"
        refine VF.y_addT (by simp only [List.length_cons, List.length_nil]; omega) ?_
        walk_at "vx"
        refine VF.y_addT (by simp only [List.length_append, List.length_cons, List.length_nil]; omega) ?_
        walk_at "vx"
        exact hq _ _ (.tup (pz_app (pz_app (hc _ _) (pz_one (px.mono (by decide)))) (hc _ _)) (by simp only [List.length_append, List.length_cons, List.length_nil]; omega)) (by omega)
      · walk_at "vx"
        refine y_draw (by omega) (by omega) (by omega) fun a a0 a1 => ?_
        walk_at "vx"
        by_cases c2 : a = 0
        · rw [decide_eq_true c2]
          walk_at "vx"
          refine y_odd hz (by omega) fun x px => ?_
          walk_at "vx"
          refine VF.y_addT (by simp only [List.length_cons, List.length_nil]; omega) ?_
          walk_at "vx"
          refine VF.y_addT (by simp only [List.length_append, List.length_cons, List.length_nil]; omega) ?_
          walk_at "vx"
          exact hq _ _ (.tup (pz_app (pz_app (hc _ _) (pz_one (px.mono (by decide)))) (hc _ _)) (by simp only [List.length_append, List.length_cons, List.length_nil]; omega)) (by omega)
        · rw [decide_eq_false c2]
          walk_at "vx"
          refine VF.y_ixT hx ?_
          walk_at "vx"
          refine VF.y_ixT it0 ?_
          walk_at "vx"
          by_cases cq : q = "add"
          · rw [decide_eq_true cq]
            obtain ⟨ti, rs, y, rfl, rfl, hr3⟩ := ha cq
            walk_at "vx"
            by_cases ck : k = 2
            · rw [decide_eq_true ck]
              subst ck
              have hx2 : VF.DV.tup fs = .tup (rs.map rD) := by
                have e2 : atI ([.str q, .int ti, .tup (rs.map rD), y] : List VF.DV) 2 = some (.tup (rs.map rD)) := atI_nat (j := 2) rfl
                rw [← hes, e2] at hx
                exact (Option.some.inj hx).symm
              cases hx2
              walk_at "vx"
              rw [List.length_map]
              by_cases c0 : (0 : Int) < (rs.length : Int)
              · rw [decide_eq_true c0]
                walk_at "vx"
                refine y_draw (by omega) (by omega) (by omega) fun b b0 b1 => ?_
                walk_at "vx"
                by_cases c3 : b = 0
                · rw [decide_eq_true c3]
                  walk_at "vx"
                  rw [List.length_map]
                  refine y_draw (by omega) (by omega) (by omega) fun j j0 j1 => ?_
                  walk_at "vx"
                  obtain ⟨r, hr1⟩ : ∃ r, rs[j.toNat]? = some r := ⟨rs[j.toNat]'(by omega), List.getElem?_eq_getElem (by omega)⟩
                  obtain ⟨r0, hr0⟩ : ∃ r, rs[0]? = some r := ⟨rs[0]'(by omega), List.getElem?_eq_getElem (by omega)⟩
                  have ij : atI (rs.map rD) j = some (.tup [.int r.1, .int r.2]) := by
                    obtain ⟨m, rfl⟩ : ∃ m : Nat, j = m := ⟨j.toNat, by omega⟩
                    exact atI_nat (by rw [List.getElem?_map, show rs[m]? = some r from hr1]; rfl)
                  have i0 : atI (rs.map rD) 0 = some (.tup [.int r0.1, .int r0.2]) := atI_nat (j := 0) (by rw [List.getElem?_map, hr0]; rfl)
                  refine VF.y_ixT it1 ?_
                  walk_at "vx"
                  refine VF.y_ixT ij ?_
                  walk_at "vx"
                  refine VF.y_ixT ij ?_
                  walk_at "vx"
                  refine VF.y_ixT ij ?_
                  walk_at "vx"
                  refine VF.y_ixT ij ?_
                  walk_at "vx"
                  refine VF.y_addT (by simp) ?_
                  walk_at "vx"
                  refine y_lenS (sq_of hz) ?_
                  rw [List.length_map]
                  walk_at "vx"
                  refine VF.y_ixT ij ?_
                  walk_at "vx"
                  refine VF.y_ixT i0 ?_
                  walk_at "vx"
                  refine y_of (by omega) (by simp) (by simp) fun i x hx => ?_
                  have px : Pz 1 x := by
                    have hm := List.mem_of_getElem? hx
                    simp only [List.mem_cons, List.not_mem_nil, or_false] at hm
                    rcases hm with rfl | rfl | rfl | rfl | rfl | rfl | rfl | rfl | rfl
                    all_goals first
                      | exact .tup (pz_c .int (pz_c .int pz_e)) (by simp)
                      | exact .lst (pz_c .int (pz_c .int pz_e)) (by simp)
                      | exact .tup (pz_c .int (pz_c .bl pz_e)) (by simp)
                      | exact .tup (pz_c .int (pz_c .int (pz_c .int pz_e))) (by simp)
                  have l3 := cut_len es (some 3) none
                  have l4 := cut_len (rs.map rD) none (some j)
                  have l5 := cut_len (rs.map rD) (some (j + 1)) none
                  rw [List.length_map] at l4 l5
                  have hc2 : ∀ a b, ∀ d ∈ VF.cutD (rs.map rD) a b, Pz 1 d := fun a b d hd => pz_rDs d (cut_mem hd)
                  walk_at "vx"
                  refine VF.y_addT (by simp only [List.length_cons, List.length_nil]; omega) ?_
                  walk_at "vx"
                  refine VF.y_addT (by simp only [List.length_append, List.length_cons, List.length_nil]; omega) ?_
                  walk_at "vx"
                  refine VF.y_addT (by simp only [List.length_cons, List.length_nil]; omega) ?_
                  walk_at "vx"
                  refine VF.y_addT (by simp only [List.length_append, List.length_cons, List.length_nil]; omega) ?_
                  walk_at "vx"
                  exact hq _ _ (.tup (pz_app (pz_app (hc _ _) (pz_one ((Pz.tup (pz_app (pz_app (hc2 _ _) (pz_one px)) (hc2 _ _)) (by simp only [List.length_append, List.length_cons, List.length_nil]; omega)).mono (by decide)))) (hc _ _)) (by simp only [List.length_append, List.length_cons, List.length_nil]; omega)) (by omega)
                · rw [decide_eq_false c3]
                  walk_at "vx"
                  refine y_tb hz ((hm _ mx).mono (by decide)) (by omega) (by omega) fun d n' pd hn' => ?_
                  walk_at "vx"
                  refine VF.y_addT (by simp only [List.length_cons, List.length_nil]; omega) ?_
                  walk_at "vx"
                  refine VF.y_addT (by simp only [List.length_append, List.length_cons, List.length_nil]; omega) ?_
                  walk_at "vx"
                  exact hq _ _ (.tup (pz_app (pz_app (hc _ _) (pz_one pd)) (hc _ _)) (by simp only [List.length_append, List.length_cons, List.length_nil]; omega)) (by omega)
              · rw [decide_eq_false c0]
                walk_at "vx"
                refine y_tb hz ((hm _ mx).mono (by decide)) (by omega) (by omega) fun d n' pd hn' => ?_
                walk_at "vx"
                refine VF.y_addT (by simp only [List.length_cons, List.length_nil]; omega) ?_
                walk_at "vx"
                refine VF.y_addT (by simp only [List.length_append, List.length_cons, List.length_nil]; omega) ?_
                walk_at "vx"
                exact hq _ _ (.tup (pz_app (pz_app (hc _ _) (pz_one pd)) (hc _ _)) (by simp only [List.length_append, List.length_cons, List.length_nil]; omega)) (by omega)
            · rw [decide_eq_false ck]
              walk_at "vx"
              refine y_tb hz ((hm _ mx).mono (by decide)) (by omega) (by omega) fun d n' pd hn' => ?_
              walk_at "vx"
              refine VF.y_addT (by simp only [List.length_cons, List.length_nil]; omega) ?_
              walk_at "vx"
              refine VF.y_addT (by simp only [List.length_append, List.length_cons, List.length_nil]; omega) ?_
              walk_at "vx"
              exact hq _ _ (.tup (pz_app (pz_app (hc _ _) (pz_one pd)) (hc _ _)) (by simp only [List.length_append, List.length_cons, List.length_nil]; omega)) (by omega)
          · rw [decide_eq_false cq]
            walk_at "vx"
            refine y_tb hz ((hm _ mx).mono (by decide)) (by omega) (by omega) fun d n' pd hn' => ?_
            walk_at "vx"
            refine VF.y_addT (by simp only [List.length_cons, List.length_nil]; omega) ?_
            walk_at "vx"
            refine VF.y_addT (by simp only [List.length_append, List.length_cons, List.length_nil]; omega) ?_
            walk_at "vx"
            exact hq _ _ (.tup (pz_app (pz_app (hc _ _) (pz_one pd)) (hc _ _)) (by simp only [List.length_append, List.length_cons, List.length_nil]; omega)) (by omega)
theorem y_bent {z : VF.DV} {xs : List Int} {D : Dd} {n : Int} {Q : VF.DV → Int → Prop} {E : XV} (hz : SqD z (VF.iD xs)) (hs : SzS xs) (ok : DdOk xs D) (hn : n ≤ 700000) (hq : ∀ d n', Pz 4 d → n' ≤ n + 9 → Q d n') : sBent ([.bag, z, dD D] ++ []) n Q E := ⟨z, xs, D, rfl, hz, hs, ok, hn, hq⟩
end
end BF
/-! ## A def called while an exception is handled, the exception frozen -/
namespace BF
open PySem PySem.Spec PyProof.Rows L2
structure RoomA (k : Nat) (A : Around) : Prop where
  dp : A.depth + 3 * k + 5 < recursionLimit
  un : A.units + 16 * k + 200 < cLine
/-- what a def promises, whatever is handled -/
structure FnA (P : Program) (w : World) (K : PySem.W.Frag) (mg : Str → Option Value) (base : Heap) (CX : CXT) (k : Nat) (f : Addr) (fd : FuncData) (ps : List Str) (sp : Sp) : Prop where
  len : ∀ vs H Q E, sp vs H Q E → vs.length = ps.length
  go : ∀ (A : Around) (outer : List Env) (s : Shared) (H : Hp) (us : List Value) (vs : List V) (Q : VK) (E : XK), RoomA k A → Env0 P w K mg base A outer s H → BindsTo s fd ⟨us, []⟩ (ps.zip us) → Vals vs us → sp vs H Q E →
    codeAny (model P w) A (.call (.ref f) ⟨us, []⟩) (CR CX outer P w H s Q E) s
def cxA (CX : CXT) (P : Program) (w : World) (K : PySem.W.Frag) (mg : Str → Option Value) (base : Heap) (N : List Str) (qual : Str) (scope : Scope) (f : Addr) (cd : Value) (A : Around) (outer : List Env) (s : Shared) (H : Hp) (E : XK) : Cx :=
  { cxOf CX P w K mg base N qual scope f cd A outer s H E with calm := false }
theorem inv_startA {CX : CXT} {P : Program} {w : World} {K : PySem.W.Frag} {mg : Str → Option Value} {base : Heap} {N ps : List Str} {qual : Str} {scope : Scope} {f : Addr} {cd : Value} {A : Around} {outer : List Env} {s s1 : Shared} {H : Hp} {E : XK} {us : List Value} {vs : List V}
    (S : FnScope N ps scope) (e0 : Env0 P w K mg base A outer s H) (hl : vs.length = ps.length) (r : Vals vs us)
    (x : InCallC s s.heap.objs.size (bindL (envOfC qual scope s.heap.objs.size f cd).kindOf (ps.zip us) fun _ => none) (cellsFrom (s.heap.objs.size + 1) scope.names []) (bindC (envOfC qual scope s.heap.objs.size f cd).kindOf (ps.zip us) fun _ => none) s1) :
    Inv (cxA CX P w K mg base N qual scope f cd A outer s H E) [] (L2.start N vs) H s1 := by
  have e1 : Env0 P w K mg base { A with handled := none } outer s H := ⟨e0.frames, e0.mod, e0.bs, e0.bsz, e0.funs, e0.frf, e0.hok, e0.bare⟩
  have I := inv_start (CX := CX) (cd := cd) (E := E) S (A := { A with handled := none }) rfl e1 hl r x
  exact ⟨⟨I.ok.mod, I.ok.kind, I.ok.glob, I.ok.blt, I.ok.above, I.ok.inj, I.ok.has, I.ok.cab, nofun, Around.frames_deeper e0.frames, I.ok.stk, I.ok.exf, I.ok.bs, I.ok.bsz, I.ok.noex, I.ok.exfs, I.ok.funs, I.ok.frf⟩, I.os, I.bare, I.base, I.loc, I.cell, I.free, I.freeC, I.pin, I.hok, I.len⟩
theorem fn_ofA {CX : CXT} {P : Program} {w : World} {K : PySem.W.Frag} {mg : Str → Option Value} {base : Heap} {x qual : Str} {params : Arguments} {body : List Stmt} {scope : Scope} {dvs : List V} {kws : List (Str × V)} {f : Addr} {fd : FuncData} {N ps : List Str} {k : Nat} {sp : Sp}
    (F : FunD K x qual params body scope dvs kws f fd) (S : FnScope N ps scope) (len : ∀ vs H Q E, sp vs H Q E → vs.length = ps.length)
    (hbody : ∀ (cdv : Value) (A : Around) (outer : List Env) (s : Shared) (H : Hp) (vs : List V) (Q : VK) (E : XK), RoomA (k + 1) A → sp vs H Q E → ∃ t, PSs (cxA CX P w K mg base N qual scope f cdv A outer s H E) body t ∧ t { nx := fun _ H' => Q .non H', rt := Q } (L2.start N vs) H) :
    FnA P w K mg base CX (k + 1) f fd ps sp := by
  obtain ⟨oc, od, dV, kV, doc, pm, an, cdv, ct, osl, rfl, lk, hcd, _, _⟩ := F.ex
  refine ⟨len, fun A outer s H us vs Q E hr e0 hb r hsp => ?_⟩
  have hl := len _ _ _ _ hsp
  have st : ∀ b o, base.get? b = some o → s.heap.get? b = some o := fun b o e => (e0.bs b o e).1
  have KX : K.In s.heap := e0.mod.kin.keeps st
  have hkind : ∀ y ∈ ps.zip us, scope.names.lookup y.1 = some .local ∨ (scope.names.lookup y.1 = some .cell ∧ ((cellsFrom (s.heap.objs.size + 1) scope.names []).lookup y.1).isSome = true) := by
    rintro ⟨n, v⟩ hy
    rcases S.par n (List.of_mem_zip hy).1 with q | q
    · exact .inl q
    · exact .inr ⟨q, PySem.W.cellsFrom_some _ _ _ (.inl q)⟩
  have hd : A.depth < recursionLimit := by have := hr.dp; omega
  refine codeAny_call_function hd (KX _ _ lk) rfl S.co S.gen rfl (PySem.W.codeRec_of KX hcd) (hb _ _ _ _ (wpAny_newFunctionEnv_cells S.kind hkind fun env he s1 x => ?_))
  subst he
  refine ⟨(e0.mod.nolimit.keeps st).keeps x.toInCall.keep, codeAny_func ?_⟩
  obtain ⟨t, ht, hq⟩ := hbody cdv A outer s H vs Q E hr hsp
  have I : Inv (cxA CX P w K mg base N qual scope f cdv A outer s H E) [] (L2.start N vs) H s1 := inv_startA S e0 hl r x
  refine wpAny_mono (ht.run [] s1 (L2.start N vs) H _ I hq) (fun fl s' hs => ?_) fun e s' hs => hs
  cases fl with
  | ret u =>
    obtain ⟨v, σ', H', J, rv, q⟩ := hs
    exact ⟨v, H', J.os, J.bare, J.base, J.hok, rv, q⟩
  | next =>
    obtain ⟨σ', H', J, q⟩ := hs
    exact ⟨.non, H', J.os, J.bare, J.base, J.hok, rfl, q⟩
  | brk => exact hs.elim fun _ h => h.elim fun _ h => False.elim h.2
  | cont => exact hs.elim fun _ h => h.elim fun _ h => False.elim h.2
section
variable {X : Cx} {pins : List (Addr × Obj)} {σ : L2.St} {H : Hp} {s : Shared} {k : Nat} {f : Addr} {fd : FuncData} {ps : List Str} {sp : Sp} {Q : VK}
theorem run_fnA {a : Addr} {oe : Obj} {u : HO} {us : List Value} {vs : List V} (F : FnA X.prog X.w X.K X.mg X.base CX0 k f fd ps sp) (hr : RoomA k X.A) (hb : Binds X.K fd ps []) (I : Inv X pins σ H s) (r : Vals vs us)
    (ha : s.heap.get? a = some oe) (hn : H a = none) (hbase : X.base.get? a = none) (hfr : a ∉ frs X.stack) (hu : ObjOk X.prog X.w (upd H a (.frz oe u)) s.heap a u)
    (h : sp vs (upd H a (.frz oe u)) (fun v H' => Q v (delA H' a)) C8.E0) : wpAny (model X.prog X.w) X.A (call (.ref f) us) (EP X pins σ Q) X.xe s := by
  have neN : ∀ {b : Addr} {o : HO}, H b = some o → b ≠ a := fun {b o} h1 z => by
    rw [z, hn] at h1
    cases h1
  have hok : HOk X.prog X.w (upd H a (.frz oe u)) s.heap := fun b o hb' => by
    by_cases z : b = a
    · subst z
      rw [upd_same] at hb'
      cases hb'
      exact ⟨ha, hu⟩
    · rw [upd_ne z] at hb'
      exact (I.hok b o hb').stay (fun c v hc y => y) (fun c hc => by rw [upd_ne (neN hc)]; exact hc) (fun c xs hc => by rw [upd_ne (neN hc)]; exact hc)
  have e0 := I.env0
  have E1 : Env0 X.prog X.w X.K X.mg X.base X.A X.stack s (upd H a (.frz oe u)) := ⟨e0.frames, e0.mod, fun b o hb' => ⟨(e0.bs b o hb').1, by
    rw [upd_ne (fun z => by rw [z, hbase] at hb'; cases hb')]
    exact (e0.bs b o hb').2⟩, e0.bsz, e0.funs, fun b hb' => by
    have z : b ≠ a := fun z => hfr (by rw [← z]; exact hb')
    rw [upd_ne z]
    exact e0.frf b hb', hok, e0.bare⟩
  have hl : us.length = ps.length := by rw [← r.length]; exact F.len _ _ _ _ h
  have hb0 := hb s us I.kIn (by simpa using hl)
  rw [List.append_nil] at hb0
  refine wpAny_call (codeAny_mono (F.go X.A X.stack s _ us vs _ C8.E0 hr E1 hb0 r h) fun r s' hq => ?_)
  cases r with
  | error e => exact (show False from hq).elim
  | ok fl =>
    cases fl with
    | ret w =>
      obtain ⟨v, H', os, bare, un, hok', rv, q⟩ := hq
      have hA : H' a = some (.frz oe u) := un.frzs a oe u upd_same
      have hA2 : s'.heap.get? a = some oe := (hok' a _ hA).1
      refine I.after ⟨v, delA H' a, os, bare, ⟨fun b o e n hf hx => ?_, fun b o e n hf hx => ?_, fun b o e n hx => ?_, un.there, fun b xs e => ?_, fun b o y e => ?_, fun b ps e => ?_⟩, fun b o e => ?_, rv, q⟩
      · by_cases z : b = a
        · rw [z] at e ⊢
          rw [ha] at e
          cases e
          exact hA2
        · exact un.keep b o e (by rw [upd_ne z]; exact n) hf hx
      · exact un.slot b o e (by
          have z : b ≠ a := fun z => hfr (by rw [← z]; exact hf)
          rw [upd_ne z]
          exact n) hf hx
      · by_cases z : b = a
        · rw [z]
          exact delA_same
        · rw [delA_ne z]
          exact un.free b o e (by rw [upd_ne z]; exact n) hx
      · rw [delA_ne (neN e)]
        exact un.tups b xs (by rw [upd_ne (neN e)]; exact e)
      · rw [delA_ne (neN e)]
        exact un.frzs b o y (by rw [upd_ne (neN e)]; exact e)
      · rw [delA_ne (neN e)]
        exact un.tbls b ps (by rw [upd_ne (neN e)]; exact e)
      · by_cases z : b = a
        · rw [z, delA_same] at e
          cases e
        · rw [delA_ne z] at e
          refine (hok' b o e).stay (fun c v hc y => y) (fun c hc => ?_) (fun c xs hc => ?_)
          · rw [delA_ne (fun z => by rw [z, hA] at hc; cases hc)]
            exact hc
          · rw [delA_ne (fun z => by rw [z, hA] at hc; cases hc)]
            exact hc
    | next => exact False.elim hq
    | brk => exact False.elim hq
    | cont => exact False.elim hq
end
section
variable {X : Cx} {a C : Addr} {oe : Obj} {d : Option Addr} {pn : List (Addr × Obj)} {e : Expr} {te : TE} {p pos : Pos} {x : Str} {k : Nat} {f : Addr} {fd : FuncData} {ps : List Str} {sp : Sp}
theorem pe_callA (hs : X.stack = X.env :: X.outer) (hf : X.env.frame = some X.env.locals) (hbase : X.base.get? a = none) (hz : Zc (.ref C) d oe) (hd : ∃ vs, oe.data = .fields vs)
    (F : FnA X.prog X.w X.K X.mg X.base CX0 k f fd ps sp) (hr : RoomA k X.A) (hg : Gl (X.suite a ((a, oe) :: pn)) x) (hm : X.mg x = some (.ref f)) (hk : PySem.W.keepIn X.K (.ref f) = true) (hb : Binds X.K fd ps [])
    (he : PE (X.suite a ((a, oe) :: pn)) e te) (hdb : (x == ("__debug__" : Str)) = false := by decide) (hst : starEach [e] X.env = (false, eval e X.env) :: starEach [] X.env := by rfl) (hpl : (backTo pos (starEach [] X.env)).any (·.1) = false := by rfl) :
    PE (X.suite a ((a, oe) :: pn)) (.Call (.Name x p) [e] [] pos) (tCallX a C d oe sp te) := by
  refine ⟨fun pins s σ H Q I h => ?_⟩
  refine wpAny_Call_Name_kw (ld_glob I hg hm ?_ hdb)
  have hx : wpAny (model X.prog X.w) (X.suite a ((a, oe) :: pn)).A _ _ _ s := (pa_weak (pa_cons he pa_nil hst)).run pos pins s σ H (fun vs H1 => vs = [.ref a] ∧ sp [.ref a] (upd H1 a (exF C d oe)) (fun v H' => Q v (delA H' a)) C8.E0) I
    ⟨fun vs H1 => match vs with
      | [x] => x = .ref a ∧ sp [.ref a] (upd H1 a (exF C d oe)) (fun v H' => Q v (delA H' a)) C8.E0
      | _ => False, h, fun vs H1 k => match vs, k with
      | [_], ⟨e, k⟩ => ⟨by rw [e], k⟩⟩
  refine PySem.W.callWith_K (h₀ := X.base) I.ok.mod.kin hk (thn hx fun us s1 ⟨vs, H1, I1, r, ev, q⟩ => ⟨I1.kIn, ?_⟩) hst hpl
  subst ev
  obtain ⟨g1, g2, g3, g4, _⟩ := I1.pin (a, oe) (List.mem_append_left _ List.mem_cons_self)
  refine run_fnA (X := X.suite a ((a, oe) :: pn)) (u := .ext fun _ => Zc (.ref C) d oe ∧ ∃ vs, oe.data = .fields vs) F ⟨hr.dp, hr.un⟩ hb I1 r g1 g2 hbase (fun z => ?_) ⟨⟨hz, hd⟩, ⟨oe, g1⟩, fun _ _ h _ => h⟩ q
  have z : a ∈ frs X.stack := z
  rw [hs] at z
  obtain ⟨e', m, k'⟩ := List.mem_filterMap.mp z
  rcases List.mem_cons.mp m with rfl | m
  · rw [hf] at k'
    exact g3 (Option.some.inj k').symm
  · exact g4 (List.mem_filterMap.mpr ⟨e', m, k'⟩)
end
end BF
/-! ## What a caught error tells -/
namespace BF
open PySem PySem.Spec PyProof.Rows L2
def FaultC (K : PySem.W.Frag) (C : Addr) (fs : List (Str × V)) (xs : List V) : Prop :=
  (C = He.ga K "InvalidSizes" ∧ fs = fsS [] ∧ xs = [.str "InvalidSizes"]) ∨
  (∃ p, C = He.ga K "InvalidDeed" ∧ fs = fsD [p] ∧ xs = [.str "InvalidDeed", p]) ∨
  (∃ p q, C = He.ga K "TooMany" ∧ fs = fsT [p, q] ∧ xs = [.str "TooMany", p, q])
def spFault (K : PySem.W.Frag) : Sp := fun vs H Q _ => ∃ (a C dd : Addr) (oe : Obj) (fs : List (Str × V)) (xs : List V), vs = [.ref a] ∧ H a = some (exF C (some dd) oe) ∧ H dd = some (.xd fs) ∧ FaultC K C fs xs ∧ ∀ p H', H p = none → Ex [] H H' → H' p = some (.lst xs) → Q (.ref p) H'
section
variable {P : Program} {w : World} {K : PySem.W.Frag} {mg : Str → Option Value} {base : Heap}
theorem sc__law_fault : FnScope ["_law_error"] ["_law_error"] (defScope s__law_fault) := ⟨rfl, rfl, rfl, by decide +kernel, rfl, by decide +kernel, by decide +kernel⟩
theorem ok__law_fault (T : TT K mg) : FnA P w K mg base CX0 1 (He.ga K "_law_fault") (fdOf K ("_law_fault", none)) ["_law_error"] (spFault K) := by
  refine fn_ofA (F__law_fault T) sc__law_fault (fun vs H Q E h => ?_) (fun cdv A outer s H vs Q E hr h => ⟨_, (pss_cons (ps_if (pt_val (pe_callB call_isET (by rfl) (T.free "isinstance" rfl) boot_isinstance (pa_cons (pv 0) (pa_cons (pe_glob (v := .ref _) (by rfl) (T.glo "InvalidSizes" rfl) rfl) pa_nil)))) (pss_one (ps_ret (pe_lstE (pa_cons (pe_xfT (pv 0)) pa_nil)))) pss_nil)
  (pss_cons (ps_if (pt_val (pe_callB call_isET (by rfl) (T.free "isinstance" rfl) boot_isinstance (pa_cons (pv 0) (pa_cons (pe_glob (v := .ref _) (by rfl) (T.glo "InvalidDeed" rfl) rfl) pa_nil)))) (pss_one (ps_ret (pe_lstE (pa_cons (pe_xfT (pv 0)) (pa_cons (pe_xfT (pv 0)) pa_nil))))) pss_nil)
  (pss_cons (ps_if (pt_val (pe_callB call_isET (by rfl) (T.free "isinstance" rfl) boot_isinstance (pa_cons (pv 0) (pa_cons (pe_glob (v := .ref _) (by rfl) (T.glo "TooMany" rfl) rfl) pa_nil)))) (pss_one (ps_ret (pe_lstE (pa_cons (pe_xfT (pv 0)) (pa_cons (pe_xfT (pv 0)) (pa_cons (pe_xfT (pv 0)) pa_nil)))))) pss_nil)
  (pss_one (ps_ret (pe_lstE (pa_cons pe_str pa_nil))))))), ?_⟩)
  · obtain ⟨a, C, dd, oe, fs, xs, rfl, _⟩ := h
    rfl
  · obtain ⟨a, C, dd, oe, fs, xs, rfl, ha, hd, hf, hq⟩ := h
    rcases hf with ⟨rfl, rfl, rfl⟩ | ⟨p, rfl, rfl, rfl⟩ | ⟨p, q, rfl, rfl, rfl⟩
    · have n3 := (ExcD.to (m_0 T)).2 "code" (by decide)
      walk_at "in"
      walk_at "gg"
      refine ⟨a, _, dd, oe, _, _, _, true, rfl, ha, hd, exccB_ok (m_5 T), fun _ h => h, kitsB_ok (m_8 T), ?_⟩
      walk_at "gg"
      refine ⟨_, rfl, a, _, dd, oe, _, _, rfl, ha, (xInvalidSizes T).xf, n3, hd, rfl, ?_⟩
      walk_at "gg"
      exact hq _ _ (by assumption) (by assumption) (by assumption)
    · have n1 := (ExcD.to (m_1 T)).2 "at" (by decide)
      have n3 := (ExcD.to (m_1 T)).2 "code" (by decide)
      walk_at "in"
      walk_at "gg"
      refine ⟨a, _, dd, oe, _, _, _, false, rfl, ha, hd, exccB_ok (m_6 T), fun _ h => h, kitsB_ok (m_9 T), ?_⟩
      walk_at "gg"
      refine ⟨a, _, dd, oe, _, _, _, true, rfl, ha, hd, exccB_ok (m_6 T), fun _ h => h, kitsB_ok (m_10 T), ?_⟩
      walk_at "gg"
      refine ⟨_, rfl, a, _, dd, oe, _, _, rfl, ha, (xInvalidDeed T).xf, n3, hd, rfl, ?_⟩
      walk_at "gg"
      refine ⟨_, rfl, a, _, dd, oe, _, _, rfl, ha, (xInvalidDeed T).xf, n1, hd, rfl, ?_⟩
      walk_at "gg"
      exact hq _ _ (by assumption) (by assumption) (by assumption)
    · have n1 := (ExcD.to (m_2 T)).2 "what" (by decide)
      have n2 := (ExcD.to (m_2 T)).2 "count" (by decide)
      have n3 := (ExcD.to (m_2 T)).2 "code" (by decide)
      walk_at "in"
      walk_at "gg"
      refine ⟨a, _, dd, oe, _, _, _, false, rfl, ha, hd, exccB_ok (m_7 T), fun _ h => h, kitsB_ok (m_11 T), ?_⟩
      walk_at "gg"
      refine ⟨a, _, dd, oe, _, _, _, false, rfl, ha, hd, exccB_ok (m_7 T), fun _ h => h, kitsB_ok (m_12 T), ?_⟩
      walk_at "gg"
      refine ⟨a, _, dd, oe, _, _, _, true, rfl, ha, hd, exccB_ok (m_7 T), fun _ h => h, kitsB_ok (m_13 T), ?_⟩
      walk_at "gg"
      refine ⟨_, rfl, a, _, dd, oe, _, _, rfl, ha, (xTooMany T).xf, n3, hd, rfl, ?_⟩
      walk_at "gg"
      refine ⟨_, rfl, a, _, dd, oe, _, _, rfl, ha, (xTooMany T).xf, n1, hd, rfl, ?_⟩
      walk_at "gg"
      refine ⟨_, rfl, a, _, dd, oe, _, _, rfl, ha, (xTooMany T).xf, n2, hd, rfl, ?_⟩
      walk_at "gg"
      exact hq _ _ (by assumption) (by assumption) (by assumption)
end
end BF
/-! ## the try around what is asked -/
namespace BF
open PySem PySem.Spec PyProof.Rows L2 VF
theorem takes_len {X : Cx} {W : WX} {n : Nat} (tk : Takes X W) (hn : X.N.length = n) : Takes X (fun cls d σ H => σ.length = n → W cls d σ H) := fun u s' ⟨a, B, sI, pins, σ, H, cls, d, e, I, nb, up, sky, na, os, ag, w⟩ =>
  tk u s' ⟨a, B, sI, pins, σ, H, cls, d, e, I, nb, up, sky, na, os, ag, w (I.len.trans hn)⟩
def tQ (Q : VK) : VK := fun y H1 => [V.str "", y].length ≤ 1000000 ∧ ∀ p H2, H1 p = none → Ex [] H1 H2 → H2 p = some (.lst [.str "told", y]) → Q (.ref p) H2
def AskX (K : PySem.W.Frag) (cls : Value) (d : Option Addr) (H' : Hp) (Q : VK) : Prop :=
  ∃ (x : Str) (dd : Addr) (fs : List (Str × V)) (xs : List V), cls = .ref (He.ga K x) ∧ x ∈ (["InvalidSizes", "InvalidDeed", "TooMany"] : List Str) ∧ d = some dd ∧ H' dd = some (.xd fs) ∧ FaultC K (He.ga K x) fs xs ∧ ∀ p H2, H' p = none → Ex [] H' H2 → H2 p = some (.lst xs) → Q (.ref p) H2
def TTa (K : PySem.W.Frag) : (XK → Hp → VK → Prop) → Hp → VK → Prop := fun tl H Q => tl (fun cls d H' => AskX K cls d H' Q) H (tQ Q)
/-- the suite: what the caught error tells -/
def tSuite (K : PySem.W.Frag) : ClS := fun a cls d D σ H => ∃ C, cls = .ref C ∧ ∀ oe, Zc (.ref C) d oe → (∃ vs, oe.data = .fields vs) → tRet (tCallX a C d oe (spFault K) (tVar 1)) D σ H
theorem sc__law_ask : FnScope ["_law_deed_here", "_law_error"] ["_law_deed_here"] (defScope s__law_ask) := ⟨rfl, rfl, rfl, by decide +kernel, rfl, by decide +kernel, by decide +kernel⟩
theorem ask_gives {X : Cx} (T : TT X.K X.mg) {g : Addr} {cdg : Value} {q : Str} (hr : Room 3 X.A) : LamX.GivesTo X ["_law_deed_here", "_law_error"] "_law_ask" (defScope s__law_ask) g cdg (defBody s__law_ask) "_law_deed_here" q (TTa X.K) := by
  intro f c' s H Q tl act hc h
  refine ⟨_, pss_one (ps_try_as1B (X := (cxOf C8.CX0 X.prog X.w X.K X.mg X.base ["_law_deed_here", "_law_error"] "_law_ask" (defScope s__law_ask) g cdg X.A X.stack s H C8.E0).nox) (i := 1) (c := .ref (He.ga X.K "BorderError"))
    (tb := fun W D σ H => ∃ Ech : XK, (∀ cls d σ' H', Ech cls d H' → σ'.length = 2 → W cls d σ' H') ∧ σ[0]? = some (some (.ref f)) ∧ H c' = some (LamX.CodeO c' q) ∧ tl Ech H (tQ D.rt))
    (ts := tSuite X.K)
    rfl rfl sc__law_ask.nd rfl rfl ⟨by rfl, by decide, .inl (T.glo "BorderError" rfl)⟩ (fun W pn xe tk _ => ?_)
    (fun a oe cls d pn hbase hz hf => ⟨fun pins s' σ H' D I ⟨C, ec, hk⟩ => ?_⟩)), ?_⟩
  · refine ⟨fun pins s' σ H' D I h' => ?_⟩
    obtain ⟨Ech, hW, h1, h2, h3⟩ := h'
    have hp := fun p1 p2 => act (fun cls d σ H => σ.length = 2 → W cls d σ H) pn xe Ech p1 p2 (takes_len tk rfl) (fun cls d σ' H' h l => hW cls d σ' H' h l)
    exact (pss_one (ps_ret (pe_lstE (pa_cons pe_str (pa_cons (hp _ _) pa_nil))))).run pins s' σ H' D I ⟨h1, h2, h3⟩
  · subst ec
    refine (pss_one (ps_ret (pe_callA (C := C) (d := d) rfl rfl hbase hz hf (ok__law_fault T) ?_ (by rfl) (T.glo "_law_fault" rfl) (F__law_fault T).kp (B__law_fault T) (pv 1)))).run pins s' σ H' D I (hk oe hz hf)
    have h2 := (hr.mono (show 1 + 1 ≤ 3 by decide)).deeper (envOfC "_law_ask" (defScope s__law_ask) s.heap.objs.size g cdg)
    exact ⟨h2.dp, h2.un⟩
  · refine ⟨fun cls d H' => AskX X.K cls d H' Q, ?_, rfl, hc, h⟩
    rintro cls d σ' H' hx hl
    match σ', hl with
    | [x, y], _ =>
      obtain ⟨e, dd, fs, xs, rfl, he, rfl, hd, hf, k⟩ := hx
      have exm : PySem.W.exmOne X.K (.ref (He.ga X.K e)) (.ref (He.ga X.K "BorderError")) = some true := by
        simp only [List.mem_cons, List.not_mem_nil, or_false] at he
        rcases he with rfl | rfl | rfl
        · exact T.exm "InvalidSizes" "BorderError" true rfl
        · exact T.exm "InvalidDeed" "BorderError" true rfl
        · exact T.exm "TooMany" "BorderError" true rfl
      refine ⟨exm, fun a ha => ⟨_, rfl, fun oe hz hfl => ?_⟩⟩
      have hne : dd ≠ a := fun z => by
        rw [z, ha] at hd
        cases hd
      refine ⟨_, rfl, rfl, a, _, dd, oe, fs, xs, rfl, upd_same, by rw [upd_ne hne]; exact hd, hf, fun p H2 hp ex hl => ?_⟩
      have hpa : p ≠ a := fun z => by
        rw [z, upd_same] at hp
        cases hp
      refine k p (delA H2 a) (by rw [upd_ne hpa] at hp; exact hp) (fun b o _ hb => ?_) (by rw [delA_ne hpa]; exact hl)
      have hba : b ≠ a := fun z => by
        rw [z, ha] at hb
        cases hb
      rw [delA_ne hba]
      exact ex b o (by simp) (by rw [upd_ne hba]; exact hb)
/-- what _law_ask gives, by data -/
def askE (Q : VF.DV → Int → Prop) : XV := fun c ns es n' =>
  (c = "InvalidSizes" ∧ ns = nsS ∧ es = [.str "InvalidSizes"] ∧ Q (.lst [.str "InvalidSizes"]) n') ∨ (c = "InvalidDeed" ∧ ns = nsD ∧ ∃ p, es = [.str "InvalidDeed", p] ∧ Q (.lst [.str "InvalidDeed", p]) n') ∨
  (c = "TooMany" ∧ ns = nsT ∧ ∃ p q, es = [.str "TooMany", q, p] ∧ Q (.lst [.str "TooMany", p, q]) n')
def wAsk (wb : XV → WE) : WE := fun τ n Q => wb (askE fun d n' => Q d τ n') (hideO τ) n fun d _ n' => Q (.lst [.str "told", d]) τ n'
theorem y_ask {wb : XV → WE} {τ : VF.ST} {n : Int} {Q : VF.DV → VF.ST → Int → Prop} (k : wb (askE fun d n' => Q d τ n') (hideO τ) n fun d _ n' => Q (.lst [.str "told", d]) τ n') : wAsk wb τ n Q := k
section
variable {K : PySem.W.Frag} {W : Wc} {X : Cx} {e : Expr}
theorem cs_T (hC : Cs K W.toCf) : W.T = tabs K := by
  obtain ⟨b, sc, ns, e⟩ := hC
  show W.toCf.T = _
  rw [e]
  rfl
theorem ve_lambody2 {Cs : Cf → Prop} {wb : XV → WE} {E : XK} {body : Expr} (h : ∀ (W : Wc) (E1 : XV), Cs W.toCf → ELinkG K W E1 E → PE X body (liftE K W (wb E1))) : PE X body (liftLam K Cs wb E) := ⟨fun pins s σ H Q I ⟨W, h1, h2, q⟩ => (h W W.E' h1 h2).run pins s σ H Q I q⟩
theorem ve_ask {wb : XV → WE} (hC : Cs K W.toCf) (h : PE X e (LamX.tLam (tabs K) (TTa K) (liftLam K (Cs K) wb))) : PE X e (liftE K W (wAsk wb)) := BF.PE.imp h fun σ H Q ⟨Γ, O, τ, n, Q', q, hw, k⟩ => by
  have hT := cs_T hC
  refine ⟨by rw [← hT]; exact q.tab, fun H1 eN T1 => ?_⟩
  refine lam_in (O := O) (τ := τ) (n := n) hC q eN (by rw [hT]; exact T1) hw (fun c ns ws es dd H' n' r hd hl hes he => ?_) (fun v H' d τ' n' r hd hq => ?_)
  · rcases he with ⟨rfl, rfl, rfl, hq⟩ | ⟨rfl, rfl, p, rfl, hq⟩ | ⟨rfl, rfl, p, t, rfl, hq⟩
    · cases hes with
      | cons d1 hes =>
        cases hes
        cases d1
        refine ⟨_, dd, fsS [], _, rfl, by simp, rfl, hd, .inl ⟨rfl, rfl, rfl⟩, fun p H2 hp ex h2 => ?_⟩
        have r2 := r.ex ex
        exact k _ H2 _ O τ n' r2 (.lst (LsM.of h2 (r.newO hp)) (.cons (.str _) .nil)) hq
    · cases hes with
      | cons d1 hes =>
        cases hes with
        | cons d2 hes =>
          cases hes
          cases d1
          refine ⟨_, dd, fsD [_], _, rfl, by simp, rfl, hd, .inr (.inl ⟨_, rfl, rfl, rfl⟩), fun p H2 hp ex h2 => ?_⟩
          have r2 := r.ex ex
          exact k _ H2 _ O τ n' r2 (.lst (LsM.of h2 (r.newO hp)) (.cons (.str _) (.cons (VF.Dat.ey (Ey.ex0 ex) d2) .nil))) hq
    · cases hes with
      | cons d1 hes =>
        cases hes with
        | cons d2 hes =>
          cases hes with
          | cons d3 hes =>
            cases hes
            cases d1
            refine ⟨_, dd, fsT [_, _], _, rfl, by simp, rfl, hd, .inr (.inr ⟨_, _, rfl, rfl, rfl⟩), fun p H2 hp ex h2 => ?_⟩
            have r2 := r.ex ex
            exact k _ H2 _ O τ n' r2 (.lst (LsM.of h2 (r.newO hp)) (.cons (.str _) (.cons (VF.Dat.ey (Ey.ex0 ex) d3) (.cons (VF.Dat.ey (Ey.ex0 ex) d2) .nil)))) hq
  · refine ⟨by simp, fun p H2 hp ex h2 => ?_⟩
    have r2 := r.ex ex
    exact k _ H2 _ O τ n' r2 (.lst (LsM.of h2 (r.newO hp)) (.cons (.str _) (.cons (VF.Dat.ey (Ey.ex0 ex) hd) .nil))) hq
end
end BF
/-! ## sign_of, by data -/
namespace BF
open PySem PySem.Spec PyProof.Rows L2 VF
def sg : List (Int × Int) → Int → Int
  | [], a => a
  | p :: r, a => sg r (a * p.1 + p.2)
theorem sg_snoc {l : List (Int × Int)} {p : Int × Int} {a : Int} : sg (l ++ [p]) a = sg l a * p.1 + p.2 := by
  induction l generalizing a with
  | nil => rfl
  | cons x l ih => simp only [List.cons_append, sg, ih]
theorem rst_zero : ∀ {a : List Int} {s : Int}, (∀ x ∈ a, 1 ≤ x) → 0 ≤ s → s < prod a → rst a s = 0
  | [], s, _, h0, h1 => by
    have : s < 1 := h1
    show s = 0
    omega
  | x :: a, s, ha, h0, h1 => by
    have hx := ha x List.mem_cons_self
    have h1 : s < x * prod a := h1
    exact rst_zero (a := a) (s := s / x) (fun y hy => ha y (List.mem_cons_of_mem _ hy)) (Int.ediv_nonneg h0 (by omega)) (Int.ediv_lt_of_lt_mul (by omega) (by rw [Int.mul_comm]; exact h1))
theorem sg_bd : ∀ {l : List (Int × Int)} {a : Int}, (∀ p ∈ l, 1 ≤ p.1 ∧ p.1 ≤ 64 ∧ 0 ≤ p.2 ∧ p.2 ≤ 63) → 0 ≤ a → 0 ≤ sg l a ∧ sg l a + 1 ≤ (a + 1) * 64 ^ l.length
  | [], a, _, h => ⟨h, by show a + 1 ≤ (a + 1) * 1; omega⟩
  | p :: l, a, hp, h => by
    obtain ⟨h1, h2, h3, h4⟩ := hp p List.mem_cons_self
    have q1 : 0 ≤ a * p.1 := Int.mul_nonneg h (by omega)
    have q2 : a * p.1 ≤ a * 64 := Int.mul_le_mul_of_nonneg_left h2 h
    obtain ⟨k1, k2⟩ := sg_bd (l := l) (a := a * p.1 + p.2) (fun y hy => hp y (List.mem_cons_of_mem _ hy)) (by omega)
    refine ⟨k1, Int.le_trans k2 ?_⟩
    rw [List.length_cons, Int.pow_succ, Int.mul_comm (64 ^ l.length) 64, ← Int.mul_assoc]
    exact Int.mul_le_mul_of_nonneg_right (by omega) (Int.pow_nonneg (by decide))
theorem sg_sm {l : List (Int × Int)} (hp : ∀ p ∈ l, 1 ≤ p.1 ∧ p.1 ≤ 64 ∧ 0 ≤ p.2 ∧ p.2 ≤ 63) (hl : l.length ≤ 6) : 0 ≤ sg l 0 ∧ sg l 0 ≤ 68719476736 := by
  obtain ⟨h1, h2⟩ := sg_bd hp (Int.le_refl 0)
  have : (64 : Int) ^ l.length ≤ 64 ^ 6 := by
    have := Nat.pow_le_pow_right (n := 64) (by decide) hl
    exact_mod_cast this
  exact ⟨h1, by omega⟩
theorem prod_ap {a b : List Int} : prod (a ++ b) = prod a * prod b := by
  induction a with
  | nil => exact (Int.one_mul _).symm
  | cons x a ih => rw [List.cons_append]; simp only [prod, ih, Int.mul_assoc]
theorem prod_rv {a : List Int} : prod a.reverse = prod a := by
  induction a with
  | nil => rfl
  | cons x a ih => rw [List.reverse_cons, prod_ap, ih]; simp only [prod]; rw [Int.mul_one, Int.mul_comm]
theorem trk_len {xs : List Int} {s : Int} : (trk xs s).length = xs.length := by
  unfold trk
  rw [List.length_reverse, dgs_len, List.length_reverse]
theorem trk_snoc {ys : List Int} {x s : Int} : trk (ys ++ [x]) s = trk ys (s / x) ++ [s % x] := by
  unfold trk
  rw [List.reverse_append]
  show (dgs (x :: ys.reverse) s).reverse = _
  simp only [dgs, List.reverse_cons]
theorem sg_trk : ∀ (k : Nat) {xs : List Int} {s : Int}, xs.length = k → sg (xs.zip (trk xs s)) (rst xs.reverse s) = s
  | 0, xs, s, h => by
    rw [List.length_eq_zero_iff.mp h]
    rfl
  | k + 1, xs, s, h => by
    obtain ⟨ys, x, rfl⟩ : ∃ ys x, xs = ys ++ [x] := ⟨xs.dropLast, xs.getLast (fun e => by rw [e] at h; cases h), (List.dropLast_concat_getLast _).symm⟩
    have hy : ys.length = k := by simp at h; exact h
    rw [trk_snoc, List.zip_append trk_len.symm, List.reverse_append]
    show sg (ys.zip (trk ys (s / x)) ++ [(x, s % x)]) (rst ys.reverse (s / x)) = s
    rw [sg_snoc, sg_trk k hy, Int.mul_comm]
    exact Int.mul_ediv_add_emod s x
theorem sg_back {xs : List Int} {s : Int} (hx : ∀ x ∈ xs, 1 ≤ x) (h0 : 0 ≤ s) (h1 : s < prod xs) : sg (xs.zip (trk xs s)) 0 = s := by
  have := sg_trk xs.length (xs := xs) (s := s) rfl
  rw [rst_zero (fun x h => hx x (List.mem_reverse.mp h)) h0 (by rw [prod_rv]; exact h1)] at this
  exact this
theorem zipD_iD {xs vs : List Int} : VF.zipD (VF.iD xs) (VF.iD vs) = (xs.zip vs).map fun p => .tup [.int p.1, .int p.2] := VF.zipD_map
section
variable {P : Program} {w : World} {K : PySem.W.Frag} {mg : Str → Option Value} {base : Heap}
def sSign : DSp := fun ds n Q _ => ∃ z xs vs, ds = [z, .tup (VF.iD vs)] ∧ SqD z (VF.iD xs) ∧ xs.length = vs.length ∧ SzOk xs ∧ (∀ v ∈ vs, 0 ≤ v ∧ v ≤ 63) ∧ Q (.int (sg (xs.zip vs) 0)) n
theorem sc_sign_of : FnScope ["sizes", "values", "sign", "size", "value"] ["sizes", "values"] (defScope s_sign_of) := ⟨rfl, rfl, rfl, by decide +kernel, rfl, by decide +kernel, by decide +kernel⟩
theorem v_sign_of (T : TT K mg) : FnOk P w K mg base (L2.CX P w) 1 (He.ga K "sign_of") (fdOf K ("sign_of", none)) ["sizes", "values"] (liftSp K (Cs K) sSign) := by
  refine v_ok (F_sign_of T) sc_sign_of (by decide) (by decide) ?_ (fun cdv A outer s H W ds n Q' hC hE hr h => ⟨_, (vss_cons (vs_set (ps_set (i := 2) sc_sign_of.nd rfl (Or.inl rfl) (ve_int pe_int)))
  (vss_cons (vs_for (passes_of rfl) rfl (vi_zipM (GA.pi_zipM (by rfl) (T.free "zip" rfl) (va_cons (ve_var (pv 0)) (va_cons (ve_var (pv 1)) va_nil)))) (vg_tup (m := 2) rfl rfl (vgs_cons (vg_name (pg_name (i := 3) sc_sign_of.nd rfl (Or.inl rfl))) (vgs_cons (vg_name (pg_name (i := 4) sc_sign_of.nd rfl (Or.inl rfl))) vgs_nil))) (vss_one (vs_set (ps_set (i := 2) sc_sign_of.nd rfl (Or.inl rfl) (ve_op (op_addD K) d_add (ve_op op_mulW d_I (ve_var (pv 2)) (ve_var (pv 3))) (ve_var (pv 4)))))))
  (vss_one (vs_ret (ps_ret (ve_var (pv 2))))))), ?_⟩)
  · rintro ds n Q E ⟨z, xs, vs, rfl, _⟩; rfl
  · obtain ⟨z, xs, vs, rfl, hz, hl, hs, hv, hq⟩ := h
    have hp : ∀ p ∈ xs.zip vs, 1 ≤ p.1 ∧ p.1 ≤ 64 ∧ 0 ≤ p.2 ∧ p.2 ≤ 63 := fun p h => ⟨(hs.1 _ (List.of_mem_zip h).1).1, (hs.1 _ (List.of_mem_zip h).1).2, (hv _ (List.of_mem_zip h).2).1, (hv _ (List.of_mem_zip h).2).2⟩
    walk_at "vin"
    walk_at "vx"
    refine y_zipM ?_
    walk_at "vx"
    refine ⟨VF.iD xs, VF.iD vs, by simp [VF.iD, hl], by rcases hz with rfl | rfl <;> simp, ?_⟩
    rw [zipD_iD]
    refine VF.y_loop (fun i τ n' => n' = n ∧ ∃ (o3 o4 : Option SV), τ = [some (.d z), some (.d (.tup (VF.iD vs))), some (.d (.int (sg ((xs.zip vs).take i) 0))), o3, o4]) ⟨rfl, none, none, rfl⟩ ?_ ?_
    · rintro i d τ n' hi ⟨rfl, o3, o4, rfl⟩
      rw [List.getElem?_map] at hi
      obtain ⟨p, hi2, rfl⟩ := Option.map_eq_some_iff.mp hi
      obtain ⟨b1, b2, b3, b4⟩ := hp p (List.mem_of_getElem? hi2)
      obtain ⟨p1, p2⟩ := sg_sm (l := (xs.zip vs).take i) (fun q hq => hp q (List.mem_of_mem_take hq)) (by rw [List.length_take, List.length_zip]; have := hs.2; omega)
      walk_at "vx"
      refine ⟨rfl, some (.d (.int p.1)), some (.d (.int p.2)), ?_⟩
      rw [take_snoc hi2, sg_snoc]
    · rintro τ n' ⟨rfl, o3, o4, rfl⟩
      rw [List.length_map, List.take_length]
      walk_at "vx"
      exact hq
theorem y_sign {z : VF.DV} {xs vs : List Int} {n : Int} {Q : VF.DV → Int → Prop} {E : XV} (hz : SqD z (VF.iD xs)) (hl : xs.length = vs.length) (hs : SzOk xs) (hv : ∀ v ∈ vs, 0 ≤ v ∧ v ≤ 63) (q : Q (.int (sg (xs.zip vs) 0)) n) : sSign ([z, .tup (VF.iD vs)] ++ []) n Q E := ⟨z, xs, vs, rfl, hz, hl, hs, hv, q⟩
end
end BF
/-! ## THE RULE by data for a def that makes lambdas: its code object is told -/
namespace BF
open PySem PySem.Spec PyProof.Rows L2 VF
theorem v_okL {P : Program} {w : World} {K : PySem.W.Frag} {mg : Str → Option Value} {base : Heap} {x qual : Str} {params : Arguments} {body : List Stmt} {scope : Scope} {dvs : List V} {kws : List (Str × V)} {p : He.Defn} {fd : FuncData} {N ps : List Str} {k : Nat} {C : Cf → Prop} {sp : DSp}
    (F : FunD K x qual params body scope dvs kws (He.fAd K p) fd) (S : FnScope N ps scope) (hN : N.length < 1000000) (hp : ps.length ≤ N.length) (hlen : ∀ ds n Q E, sp ds n Q E → ds.length = ps.length)
    (hbody : ∀ (A : Around) (outer : List Env) (s : Shared) (H : Hp) (W : Wc) (ds : List VF.DV) (n : Int) (Q' : VF.DV → Int → Prop), C W.toCf → ELink K W → Room k (A.deeper (envOfC qual scope s.heap.objs.size (He.fAd K p) (.ref (He.cT K p).1))) → sp ds n Q' W.E' →
      ∃ wd, PSs (cxOf (L2.CX P w) P w K mg base N qual scope (He.fAd K p) (.ref (He.cT K p).1) A outer s H W.E) body (liftS K W wd) ∧ wd { nx := fun _ n => Q' .non n, rt := Q' } (startT N ds) n) : FnOk P w K mg base (L2.CX P w) (k + 1) (He.fAd K p) fd ps (liftSp K C sp) := by
  obtain ⟨oc, od, dV, kV, doc, pm, an, cdv, ct, osl, rfl, lk, hcd, _, _⟩ := F.ex
  obtain ⟨c, rfl⟩ := He.codeIn_ref hcd
  have e : He.codeOf K p = c := He.codeOf_eq lk rfl
  refine fn_of lk hcd S (fun vs H Q E h => ?_) fun A outer s H vs Q E hr h => ?_
  · obtain ⟨W, ds, n, Q', hC, hWE, hE, hsp, hl, fin⟩ := v_body hN hp hlen h
    exact hl
  · obtain ⟨W, ds, n, Q', hC, hWE, hE, hsp, hl, fin⟩ := v_body hN hp hlen h
    subst hWE
    have hb := hbody A outer s H W ds n Q'
    rw [show (He.cT K p).1 = c from e] at hb
    obtain ⟨wd, h1, h2⟩ := hb hC hE hr hsp
    exact ⟨_, h1, fin wd h2⟩
theorem fn_okL {P : Program} {w : World} {K : PySem.W.Frag} {mg : Str → Option Value} {base : Heap} {CX : CXT} {x qual : Str} {params : Arguments} {body : List Stmt} {scope : Scope} {dvs : List V} {kws : List (Str × V)} {p : He.Defn} {fd : FuncData} {N ps : List Str} {k : Nat} {sp : Sp}
    (F : FunD K x qual params body scope dvs kws (He.fAd K p) fd) (S : FnScope N ps scope) (hlen : ∀ vs H Q E, sp vs H Q E → vs.length = ps.length)
    (hbody : ∀ (A : Around) (outer : List Env) (s : Shared) (H : Hp) (vs : List V) (Q : VK) (E : XK), Room k (A.deeper (envOfC qual scope s.heap.objs.size (He.fAd K p) (.ref (He.cT K p).1))) → sp vs H Q E →
      ∃ t, PSs (cxOf CX P w K mg base N qual scope (He.fAd K p) (.ref (He.cT K p).1) A outer s H E) body t ∧ t { nx := fun _ H' => Q .non H', rt := Q } (L2.start N vs) H) : FnOk P w K mg base CX (k + 1) (He.fAd K p) fd ps sp := by
  obtain ⟨oc, od, dV, kV, doc, pm, an, cdv, ct, osl, rfl, lk, hcd, _, _⟩ := F.ex
  obtain ⟨c, rfl⟩ := He.codeIn_ref hcd
  have e : He.codeOf K p = c := He.codeOf_eq lk rfl
  refine fn_of lk hcd S hlen fun A outer s H vs Q E hr h => ?_
  have hb := hbody A outer s H vs Q E
  rw [show (He.cT K p).1 = c from e] at hb
  exact hb hr h
/-- a run by data that begins in the midst of a def: nothing is raised -/
abbrev midW (C : Cf) (M : List Addr) (H0 : Hp) (hb : C.b ∈ M) : Wc := ⟨C, [C.b], M, H0, hb, List.mem_singleton.mpr rfl, fun _ _ _ _ => False, C8.E0⟩
theorem pss_mid {X : Cx} {st : List Stmt} {K : PySem.W.Frag} {Cs : Cf → Prop} {wd : ∀ (C : Cf) (M : List Addr) (H0 : Hp) (hb : C.b ∈ M), WS} (h : ∀ (C : Cf) (M : List Addr) (H0 : Hp) (hb : C.b ∈ M), Cs C → ELink K (midW C M H0 hb) → PSs X st (liftS K (midW C M H0 hb) (wd C M H0 hb))) :
    PSs X st (fun D σ H => ∃ (C : Cf) (M : List Addr) (H0 : Hp) (hb : C.b ∈ M), Cs C ∧ liftS K (midW C M H0 hb) (wd C M H0 hb) D σ H) :=
  ⟨fun pins s σ H D I ⟨C, M, H0, hb, hC, q⟩ => (h C M H0 hb hC fun _ _ _ _ _ _ _ _ _ _ _ _ _ _ z => z.elim).run pins s σ H D I q⟩
end BF
/-! ## One value judged -/
namespace BF
open PySem PySem.Spec PyProof.Rows L2 VF
inductive ARes where
  | told (d : VF.DV) | sizes | deed (p : VF.DV) | many (p q : VF.DV)
def aresV : ARes → VF.DV
  | .told d => .lst [.str "told", d]
  | .sizes => .lst [.str "InvalidSizes"]
  | .deed p => .lst [.str "InvalidDeed", p]
  | .many p q => .lst [.str "TooMany", p, q]
def aresR : ARes → (VF.DV → Int → Prop) → XV → Int → Prop
  | .told d, F, _, n => F d n
  | .sizes, _, E, n => E "InvalidSizes" nsS gdS n
  | .deed p, _, E, n => E "InvalidDeed" nsD [.str "InvalidDeed", p] n
  | .many p q, _, E, n => E "TooMany" nsT [.str "TooMany", q, p] n
theorem y_ask2 {wb : XV → WE} {r : ARes} {τ : VF.ST} {n : Int} {Q : VF.DV → VF.ST → Int → Prop} (h : ∀ (F : VF.DV → Int → Prop) (E1 : XV), aresR r F E1 n → wb E1 (hideO τ) n fun d _ n' => F d n') (k : Q (aresV r) τ n) : wAsk wb τ n Q := by
  refine y_ask (h (fun d n' => Q (.lst [.str "told", d]) τ n') _ ?_)
  cases r with
  | told d => exact k
  | sizes => exact .inl ⟨rfl, rfl, rfl, k⟩
  | deed p => exact .inr (.inl ⟨rfl, rfl, p, rfl, k⟩)
  | many p q => exact .inr (.inr ⟨rfl, rfl, p, q, rfl, k⟩)
def sJudged : DSp := fun ds n Q _ => ∃ z xs d, ds = [z, d] ∧ SqD z (VF.iD xs) ∧ SzS xs ∧ Pz 4 d ∧ Q (.bl true) n
theorem tab_ne {K : PySem.W.Frag} {mg : Str → Option Value} (T : TT K mg) : (He.cT K ("_law_judged", none)).2 ≠ (He.cT K ("law", none)).2 := by
  have h := m_4 T
  simpa [more4] using h
/-- the move by nothing -/
def mv0 : VF.DV := .tup [.str "move", .int 0, .int 0]
theorem pz_mv0 : Pz 1 mv0 := .tup (pz_c (.str lay_move) (pz_c .int (pz_c .int pz_e))) (by simp)
theorem pz_sq {z : VF.DV} {xs : List Int} (hz : SqD z (VF.iD xs)) (hs : SzS xs) : Pz 1 z := by
  have := hs.1.2
  rcases hz with rfl | rfl
  · exact .lst pz_iD (by rw [List.length_map]; omega)
  · exact .tup pz_iD (by rw [List.length_map]; omega)
theorem iD_inj : ∀ {a b : List Int}, VF.iD a = VF.iD b → a = b
  | [], [], _ => rfl
  | x :: a, y :: b, h => by
    simp only [VF.iD, List.map_cons, List.cons.injEq, VF.DV.int.injEq] at h
    rw [h.1, iD_inj (a := a) (b := b) h.2]
  | [], _ :: _, h => by cases h
  | _ :: _, [], h => by cases h
theorem sq_inj {z : VF.DV} {a b : List Int} (h : SqD z (VF.iD a)) (k : SqD z (VF.iD b)) : a = b := by
  rcases h with rfl | rfl <;> rcases k with k | k <;> first | (cases k; done) | (injection k with k; exact iD_inj k)
theorem mv0_ok {xs : List Int} (h : 1 ≤ xs.length) : deedB xs mv0 = true := deedB_dD (D := .mv 0 0) ⟨by omega, by omega, by omega, by omega⟩
section
variable {P : Program} {w : World} {K : PySem.W.Frag} {mg : Str → Option Value} {base : Heap}
theorem ve_meth0 {W : Wc} {X : Cx} {wa : WE} {sp : DSp} {dvs : List V} {dds : List VF.DV} {E' : XV} {E : XK} {cl m : Str} {e : Expr} {Cs : Cf → Prop} (hC : Cs W.toCf) (hE : ELinkG K W E' E) (h : PE X e (tMeth (He.ga K cl) m (liftSp K Cs sp) dvs E (liftE K W wa) tNil)) (hdv : ∀ b M H, VF.DatL K b M H dvs dds) : PE X e (liftE K W (wMeth cl m sp dds E' wa wNil)) :=
  ve_meth hC hE (BF.PE.imp h fun σ H Q ⟨Γ, O, τ, n, Q', q, hw, k⟩ => ⟨Γ, O, τ, n, Q', q, hw, fun v H1 d O1 τ1 n1 q1 d1 h1 => by
    obtain ⟨a, dx, fs, e1, e2, e3, Γ2, O2, τ2, n2, Q2, q2, hw2, k2⟩ := k v H1 d O1 τ1 n1 q1 d1 h1
    exact ⟨a, dx, fs, e1, e2, e3, k2 [] H1 [] O2 τ2 n2 q2 .nil hw2⟩⟩) hdv
theorem sc__law_judged : FnScope ["_law_sizes_here", "_law_thing", "_law_right_here", "_law_told"] ["_law_sizes_here", "_law_thing"] (defScope s__law_judged) := ⟨rfl, rfl, rfl, by decide +kernel, rfl, by decide +kernel, by decide +kernel⟩
theorem v__law_judged (T : TT K mg) (L : LimT K w) (hTB : ∀ p ∈ tf, LamX.TabB base mg (He.cT K p).1 (He.cT K p).2) : FnOk P w K mg base (L2.CX P w) 12 (He.ga K "_law_judged") (fdOf K ("_law_judged", none)) ["_law_sizes_here", "_law_thing"] (liftSp K (Cs K) sJudged) := by
  obtain ⟨oc, od, dV, kV, doc, pm, an, cdv', ct, osl, hfd, lkT, hcT, _, _⟩ := (F__law_ask T).ex
  have bT := B__law_ask T
  rw [hfd] at bT lkT
  have hmT : ((He.cT K ("_law_judged", none)).2, ("_law_judged" ++ ".<locals>." ++ "<lambda>" : Str)) ∈ tabs K := List.mem_cons_self
  have huT : ∀ p ∈ tabs K, p.1 = (He.cT K ("_law_judged", none)).2 → p.2 = ("_law_judged" ++ ".<locals>." ++ "<lambda>" : Str) := fun p hp z => by
    rcases List.mem_cons.mp hp with e | hp
    · rw [e]
    · rw [List.mem_singleton.mp hp] at z
      exact absurd z.symm (tab_ne T)
  refine v_okL (p := ("_law_judged", none)) (F__law_judged T) sc__law_judged (by decide) (by decide) ?_ (fun A outer s H W ds n Q' hC hE hr h => ⟨_, (vss_cons (vs_set (ps_set (i := 2) sc__law_judged.nd rfl (Or.inl rfl) (ve_call hC hE (pe_call (v__law_right T) (hr.mono (by decide)) (by rfl) (T.glo "_law_right" rfl) (F__law_right T).kp (B__law_right T) .nil (passes_call (takes_of rfl rfl rfl rfl) (fun _ _ _ _ h => h)) (va_cons (ve_var (pv 0)) (va_cons (ve_var (pv 1)) va_nil))) (fun _ _ _ => .nil))))
  (vss_cons (vs_if (vt_not (vt_val (ve_call hC hE (pe_call (v__law_like T 6) (hr.mono (by decide)) (by rfl) (T.glo "_law_like" rfl) (F__law_like T).kp (B__law_like T) .nil (passes_call (takes_of rfl rfl rfl rfl) (fun _ _ _ _ h => h)) (va_cons (ve_lst (va_cons (ve_call hC hE (pe_call (v_is_deed T) (hr.mono (by decide)) (by rfl) (T.glo "is_deed" rfl) (F_is_deed T).kp (B_is_deed T) .nil (passes_call (takes_of rfl rfl rfl rfl) (fun _ _ _ _ h => h)) (va_cons (ve_var (pv 0)) (va_cons (ve_var (pv 1)) va_nil))) (fun _ _ _ => .nil)) (va_cons (ve_call hC hE (pe_call (v_is_deed T) (hr.mono (by decide)) (by rfl) (T.glo "is_deed" rfl) (F_is_deed T).kp (B_is_deed T) .nil (passes_call (takes_of rfl rfl rfl rfl) (fun _ _ _ _ h => h)) (va_cons (ve_cb (pe_callTy (call_listLTK K) (by rfl) (T.free "list" rfl) boot_list (va_cons (ve_var (pv 0)) va_nil)) d_list) (va_cons (ve_var (pv 1)) va_nil))) (fun _ _ _ => .nil)) va_nil))) (va_cons (ve_lst (va_cons (ve_var (pv 2)) (va_cons (ve_var (pv 2)) va_nil))) va_nil))) (fun _ _ _ => .nil)))) (vss_one (vs_ret (ps_ret (ve_bl pe_bl)))) vss_nil)
  (vss_cons (vs_set (ps_set (i := 3) sc__law_judged.nd rfl (Or.inl rfl) (ve_ask hC (LamX.pe_lamcall (k := 8) (T := tabs K) (by rfl) (T.glo "_law_ask" rfl) (F__law_ask T).kp lkT hcT bT sc__law_ask rfl (Or.inl rfl) (ask_gives T (hr.mono (by decide))) (hTB _ (by decide)) rfl hmT huT (hr.mono (by decide)) (LamX.lamS_by (sc := defScope s__law_judged) (by decide +kernel)) rfl (fun _ _ _ _ _ => rfl) (fun A outer s H E f c' hr => ve_lambody2 fun W E1 hC hE => (ve_meth0 (cl := "Program") (m := "deeds") hC hE (pe_meth0 (ve_makeS (cl := "Program") hC hE (StX.pe_makeR (T.mkr "Program" rfl) (v_Program T L) (hr.mono (by decide)) (by rfl) (T.glo "Program" rfl) (passes_call (takes_of rfl rfl rfl rfl) (fun _ _ _ _ h => h)) (va_cons (ve_var (pv 0)) (va_cons (ve_tup (va_cons (ve_str pe_str) (va_cons (ve_int pe_int) (va_cons (ve_int pe_int) va_nil)))) (va_cons (ve_var (pv 1)) va_nil))))) (T.cls "Program" rfl) (T.meth "Program" "deeds" rfl) (v_Program_deeds T) (hr.mono (by decide)) (B_Program_deeds T) .nil (passes_call (takes_of rfl rfl rfl rfl) (fun _ _ _ _ h => h))) (fun _ _ _ => .nil)))))))
  (vss_one (vs_ret (ps_ret (ve_call hC hE (pe_call (v__law_like T 6) (hr.mono (by decide)) (by rfl) (T.glo "_law_like" rfl) (F__law_like T).kp (B__law_like T) .nil (passes_call (takes_of rfl rfl rfl rfl) (fun _ _ _ _ h => h)) (va_cons (ve_var (pv 3)) (va_cons (ve_if (vt_tru (pt_truth (ve_var (pv 2)) (fun _ => rfl))) (ve_lst (va_cons (ve_str pe_str) (va_cons (ve_lst (va_cons (ve_tup (va_cons (ve_str pe_str) (va_cons (ve_int pe_int) (va_cons (ve_int pe_int) va_nil)))) (va_cons (ve_var (pv 1)) va_nil))) va_nil))) (ve_lst (va_cons (ve_str pe_str) (va_cons (ve_int pe_int) va_nil)))) va_nil))) (fun _ _ _ => .nil)))))))), ?_⟩)
  · rintro ds n Q E ⟨z, xs, d, rfl, _⟩; rfl
  · obtain ⟨z, xs, d, rfl, hz, hs, hp, hq⟩ := h
    walk_at "vin"
    walk_at "vx"
    refine y_deed hz hs.1 hs.2.1 (hp.1.mono (by decide)) ?_
    walk_at "vx"
    refine y_deed hz hs.1 hs.2.1 (hp.1.mono (by decide)) ?_
    walk_at "vx"
    refine y_listS (sq_of hz) ?_
    walk_at "vx"
    refine y_deed (.inl rfl) hs.1 hs.2.1 (hp.1.mono (by decide)) ?_
    walk_at "vx"
    refine y_like (.lst (pz_c .bl (pz_c .bl pz_e)) (by simp)) ?_
    walk_at "vx"
    have hpl : ∀ r ∈ [mv0, d], Pl 8 r := fun r hr => by
      rcases List.mem_cons.mp hr with rfl | hr
      · exact (pz_mv0.mono (by decide)).1
      · rw [List.mem_singleton.mp hr]
        exact (hp.mono (by decide)).1
    have hm0 := mv0_ok hs.2.2.1
    cases eb : deedB xs d with
    | true =>
      refine y_ask2 (r := .told (.lst [mv0, d])) (fun F E1 ho => ?_) ?_
      · dsimp only [VF.hideO, List.map]
        walk_at "vx"
        refine y_makeS ?_
        walk_at "vx"
        refine ⟨z, [mv0, d], rfl, by simp, z, [mv0, d], rfl, (pz_sq hz hs).1.mono (by decide), by simp, hpl, ?_⟩
        refine ⟨fun e => (by rw [sizesB_of hz hs.1 hs.2.2.1] at e; exact (Bool.noConfusion e)), fun ys hy _ _ => ?_⟩
        cases sq_inj hz hy
        refine ⟨fun h => absurd h (by have := hs.2.1; omega), fun _ => ⟨fun _ a b c => ?_, fun i r hi hb _ => ?_⟩⟩
        · walk_at "vx"
          refine ⟨_, _, rfl, by decide +kernel, ?_⟩
          walk_at "vx"
          exact ⟨_, _, _, _, _, rfl, ho⟩
        · match i, hi with
          | 0, hi => cases hi; rw [hm0] at hb; cases hb
          | 1, hi => cases hi; rw [eb] at hb; cases hb
      · dsimp only [aresV]
        walk_at "vx"
        refine y_like (k := 6) (.lst (pz_c (.str (by decide +kernel)) (pz_c (.lst (pz_c (pz_mv0.mono (by decide)) (pz_c hp pz_e)) (by simp)) pz_e)) (by simp)) ?_
        walk_at "vx"
        exact hq
    | false =>
      refine y_ask2 (r := .deed (.int 1)) (fun F E1 ho => ?_) ?_
      · dsimp only [VF.hideO, List.map]
        walk_at "vx"
        refine y_makeS ?_
        walk_at "vx"
        refine ⟨z, [mv0, d], rfl, by simp, z, [mv0, d], rfl, (pz_sq hz hs).1.mono (by decide), by simp, hpl, ?_⟩
        refine ⟨fun e => (by rw [sizesB_of hz hs.1 hs.2.2.1] at e; exact (Bool.noConfusion e)), fun ys hy _ _ => ?_⟩
        cases sq_inj hz hy
        refine ⟨fun h => absurd h (by have := hs.2.1; omega), fun _ => ⟨fun hall a b c => ?_, fun i r hi hb _ => ?_⟩⟩
        · have := hall d (by simp)
          rw [eb] at this
          cases this
        · match i, hi with
          | 0, hi => cases hi; rw [hm0] at hb; cases hb
          | 1, hi => exact ho
      · dsimp only [aresV]
        walk_at "vx"
        refine y_like (k := 6) (.lst (pz_c (.str (by decide +kernel)) (pz_c .int pz_e)) (by simp)) ?_
        walk_at "vx"
        exact hq
theorem y_judged {z d : VF.DV} {xs : List Int} {n : Int} {Q : VF.DV → Int → Prop} {E : XV} (hz : SqD z (VF.iD xs)) (hs : SzS xs) (hp : Pz 4 d) (q : Q (.bl true) n) : sJudged ([z, d] ++ []) n Q E := ⟨z, xs, d, rfl, hz, hs, hp, q⟩
end
end BF
/-! ## Signs there and back; drawn sizes -/
namespace BF
open PySem PySem.Spec PyProof.Rows L2 VF
theorem dgs_bd : ∀ {a : List Int} {s : Int}, (∀ x ∈ a, 1 ≤ x ∧ x ≤ 64) → ∀ v ∈ dgs a s, 0 ≤ v ∧ v ≤ 63
  | [], _, _, v, hv => by cases hv
  | x :: a, s, ha, v, hv => by
    obtain ⟨h1, h2⟩ := ha x List.mem_cons_self
    simp only [dgs] at hv
    rcases List.mem_cons.mp hv with rfl | hv
    · have := Int.emod_nonneg s (show x ≠ 0 by omega)
      have := Int.emod_lt_of_pos s (show 0 < x by omega)
      omega
    · exact dgs_bd (fun y hy => ha y (List.mem_cons_of_mem _ hy)) v hv
theorem trk_bd {xs : List Int} {s : Int} (hs : SzOk xs) : ∀ v ∈ trk xs s, 0 ≤ v ∧ v ≤ 63 := fun v hv =>
  dgs_bd (fun x hx => hs.1 x (List.mem_reverse.mp hx)) v (List.mem_reverse.mp hv)
theorem szs2 {a b : Int} (a0 : 0 ≤ a) (a1 : a < 8) (b0 : 0 ≤ b) (b1 : b < 8) : SzS [1 + a, 1 + b] := by
  refine ⟨⟨fun x hx => ?_, by simp⟩, ?_, by simp, .inr fun x hx => ?_⟩
  · simp only [List.mem_cons, List.not_mem_nil, or_false] at hx
    rcases hx with rfl | rfl <;> omega
  · simp only [prod, Int.mul_one]
    have : (1 + a) * (1 + b) ≤ 8 * 8 := Int.mul_le_mul (by omega) (by omega) (by omega) (by omega)
    omega
  · simp only [List.mem_cons, List.not_mem_nil, or_false] at hx
    rcases hx with rfl | rfl <;> omega
theorem szs_of {xs : List Int} (h : (xs.all fun x => decide (1 ≤ x ∧ x ≤ 64)) = true) (h1 : decide (xs.length ≤ 6 ∧ prod xs ≤ 64 ∧ 1 ≤ xs.length) = true) (h2 : (decide (xs.length = 1) || xs.all fun x => decide (x ≤ 9)) = true) : SzS xs := by
  obtain ⟨a, b, c⟩ := of_decide_eq_true h1
  refine ⟨⟨fun x hx => of_decide_eq_true (List.all_eq_true.mp h x hx), a⟩, b, c, ?_⟩
  rcases Bool.or_eq_true_iff.mp h2 with h2 | h2
  · exact .inl (of_decide_eq_true h2)
  · exact .inr fun x hx => of_decide_eq_true (List.all_eq_true.mp h2 x hx)
def sSigns : DSp := fun ds n Q _ => ∃ z xs, ds = [.bag, z] ∧ SqD z (VF.iD xs) ∧ SzS xs ∧ n ≤ 900000 ∧ ∀ n', n' ≤ n + 3 → Q (.bl true) n'
def sSzs : DSp := fun ds n Q _ => ds = [.bag] ∧ n ≤ 900000 ∧ ∀ xs n', SzS xs → n' ≤ n + 3 → Q (.tup (VF.iD xs)) n'
section
variable {P : Program} {w : World} {K : PySem.W.Frag} {mg : Str → Option Value} {base : Heap}
theorem y_parts {z : VF.DV} {xs : List Int} {s n : Int} {Q : VF.DV → Int → Prop} {E : XV} (hz : SqD z (VF.iD xs)) (hs : SzOk xs) (h0 : 0 ≤ s) (h1 : s ≤ 1000000000000) (q : Q (.lst (VF.iD (trk xs s))) n) : sParts ([z, .int s] ++ []) n Q E := ⟨z, xs, s, rfl, hz, hs, h0, h1, q⟩
theorem sc__law_signs : FnScope ["_law_bag_here", "_law_sizes_here", "_law_lap", "_law_sign", "_law_parts_here", "_law_told"] ["_law_bag_here", "_law_sizes_here"] (defScope s__law_signs) := ⟨rfl, rfl, rfl, by decide +kernel, rfl, by decide +kernel, by decide +kernel⟩
theorem v__law_signs (T : TT K mg) : FnOk P w K mg base (L2.CX P w) 6 (He.ga K "_law_signs") (fdOf K ("_law_signs", none)) ["_law_bag_here", "_law_sizes_here"] (liftSp K (Cs K) sSigns) := by
  refine v_ok (F__law_signs T) sc__law_signs (by decide) (by decide) ?_ (fun cdv A outer s H W ds n Q' hC hE hr h => ⟨_, (vss_cons (vs_for (passes_of rfl) rfl (vi_rng1 (pi_range1 (by rfl) (T.free "range" rfl) (va_cons (ve_int pe_int) va_nil))) (vg_name (pg_name (i := 2) sc__law_signs.nd rfl (Or.inl rfl))) (vss_cons (vs_set (ps_set (i := 3) sc__law_signs.nd rfl (Or.inl rfl) (ve_call hC hE (pe_call (v__law_draw T) (hr.mono (by decide)) (by rfl) (T.glo "_law_draw" rfl) (F__law_draw T).kp (B__law_draw T) .nil pass0 (va_cons (ve_var (pv 0)) (va_cons (ve_call hC hE (pe_call (v__law_product T) (hr.mono (by decide)) (by rfl) (T.glo "_law_product" rfl) (F__law_product T).kp (B__law_product T) .nil (passes_call (takes_of rfl rfl rfl rfl) (fun _ _ _ _ h => h)) (va_cons (ve_var (pv 1)) va_nil)) (fun _ _ _ => .nil)) va_nil))) (fun _ _ _ => .nil))))
  (vss_cons (vs_set (ps_set (i := 4) sc__law_signs.nd rfl (Or.inl rfl) (ve_cb (pe_callTy (call_tupLTK K) (by rfl) (T.free "tuple" rfl) boot_tuple (va_cons (ve_call hC hE (pe_call (v__law_parts T) (hr.mono (by decide)) (by rfl) (T.glo "_law_parts" rfl) (F__law_parts T).kp (B__law_parts T) .nil (passes_call (takes_of rfl rfl rfl rfl) (fun _ _ _ _ h => h)) (va_cons (ve_var (pv 1)) (va_cons (ve_var (pv 3)) va_nil))) (fun _ _ _ => .nil)) va_nil)) d_tuple)))
  (vss_cons (vs_set (ps_set (i := 5) sc__law_signs.nd rfl (Or.inl rfl) (ve_lst (va_cons (ve_call hC hE (pe_call (v_track_values T) (hr.mono (by decide)) (by rfl) (T.glo "track_values" rfl) (F_track_values T).kp (B_track_values T) .nil (passes_call (takes_of rfl rfl rfl rfl) (fun _ _ _ _ h => h)) (va_cons (ve_var (pv 1)) (va_cons (ve_var (pv 3)) va_nil))) (fun _ _ _ => .nil)) (va_cons (ve_call hC hE (pe_call (v_sign_of T) (hr.mono (by decide)) (by rfl) (T.glo "sign_of" rfl) (F_sign_of T).kp (B_sign_of T) .nil (passes_call (takes_of rfl rfl rfl rfl) (fun _ _ _ _ h => h)) (va_cons (ve_var (pv 1)) (va_cons (ve_var (pv 4)) va_nil))) (fun _ _ _ => .nil)) (va_cons (ve_call hC hE (pe_call (v_sign_of T) (hr.mono (by decide)) (by rfl) (T.glo "sign_of" rfl) (F_sign_of T).kp (B_sign_of T) .nil (passes_call (takes_of rfl rfl rfl rfl) (fun _ _ _ _ h => h)) (va_cons (ve_cb (pe_callTy (call_listLTK K) (by rfl) (T.free "list" rfl) boot_list (va_cons (ve_var (pv 1)) va_nil)) d_list) (va_cons (ve_call hC hE (pe_call (v_track_values T) (hr.mono (by decide)) (by rfl) (T.glo "track_values" rfl) (F_track_values T).kp (B_track_values T) .nil (passes_call (takes_of rfl rfl rfl rfl) (fun _ _ _ _ h => h)) (va_cons (ve_cb (pe_callTy (call_listLTK K) (by rfl) (T.free "list" rfl) boot_list (va_cons (ve_var (pv 1)) va_nil)) d_list) (va_cons (ve_var (pv 3)) va_nil))) (fun _ _ _ => .nil)) va_nil))) (fun _ _ _ => .nil)) va_nil))))))
  (vss_one (vs_if (vt_not (vt_val (ve_call hC hE (pe_call (v__law_like T 2) (hr.mono (by decide)) (by rfl) (T.glo "_law_like" rfl) (F__law_like T).kp (B__law_like T) .nil (passes_call (takes_of rfl rfl rfl rfl) (fun _ _ _ _ h => h)) (va_cons (ve_var (pv 5)) (va_cons (ve_lst (va_cons (ve_var (pv 4)) (va_cons (ve_var (pv 3)) (va_cons (ve_var (pv 3)) va_nil)))) va_nil))) (fun _ _ _ => .nil)))) (vss_one (vs_ret (ps_ret (ve_bl pe_bl)))) vss_nil))))))
  (vss_one (vs_ret (ps_ret (ve_bl pe_bl))))), ?_⟩)
  · rintro ds n Q E ⟨z, xs, rfl, _⟩; rfl
  · obtain ⟨z, xs, rfl, hz, hs, hn, hq⟩ := h
    have pp := prod_small hs.1.1 hs.1.2
    have h64 := hs.2.1
    have h6 := hs.1.2
    walk_at "vin"
    walk_at "vx"
    refine VF.y_loop (fun i τ n' => n' ≤ n + i ∧ ∃ (o2 o3 o4 o5 : Option SV), τ = [some (.d .bag), some (.d z), o2, o3, o4, o5]) ⟨by omega, none, none, none, none, rfl⟩ ?_ ?_
    · rintro i d τ n' hi ⟨hn', o2, o3, o4, o5, rfl⟩
      have hi3 : i < 3 := by
        have := (List.getElem?_eq_some_iff.mp hi).1
        rw [rngD_len] at this
        exact this
      walk_at "vx"
      refine y_count hz hs.1.1 hs.1.2 ?_
      walk_at "vx"
      refine y_draw (by omega) (by omega) (by omega) fun g g0 g1 => ?_
      walk_at "vx"
      refine y_parts hz hs.1 g0 (by omega) ?_
      walk_at "vx"
      refine y_track hz hs.1 g0 (by omega) ?_
      walk_at "vx"
      refine y_sign hz trk_len.symm hs.1 (trk_bd hs.1) ?_
      walk_at "vx"
      refine y_listS (sq_of hz) ?_
      walk_at "vx"
      refine y_listS (sq_of hz) ?_
      walk_at "vx"
      refine y_track (.inl rfl) hs.1 g0 (by omega) ?_
      walk_at "vx"
      refine y_sign (.inl rfl) trk_len.symm hs.1 (trk_bd hs.1) ?_
      rw [sg_back (fun x hx => (hs.1.1 x hx).1) g0 g1]
      walk_at "vx"
      refine y_like (k := 2) (.lst (pz_c (.tup pz_iD (by rw [List.length_map, trk_len]; omega)) (pz_c .int (pz_c .int pz_e))) (by simp)) ?_
      walk_at "vx"
      exact ⟨by omega, _, _, _, _, rfl⟩
    · rintro τ n' ⟨hn', o2, o3, o4, o5, rfl⟩
      rw [rngD_len] at hn'
      walk_at "vx"
      exact hq _ (by simpa using hn')
theorem y_signs {z : VF.DV} {xs : List Int} {n : Int} {Q : VF.DV → Int → Prop} {E : XV} (hz : SqD z (VF.iD xs)) (hs : SzS xs) (hn : n ≤ 900000) (hq : ∀ n', n' ≤ n + 3 → Q (.bl true) n') : sSigns ([.bag, z] ++ []) n Q E := ⟨z, xs, rfl, hz, hs, hn, hq⟩
theorem sc__law_sizes : FnScope ["_law_bag_here", "_law_menu"] ["_law_bag_here"] (defScope s__law_sizes) := ⟨rfl, rfl, rfl, by decide +kernel, rfl, by decide +kernel, by decide +kernel⟩
theorem v__law_sizes (T : TT K mg) : FnOk P w K mg base (L2.CX P w) 3 (He.ga K "_law_sizes") (fdOf K ("_law_sizes", none)) ["_law_bag_here"] (liftSp K (Cs K) sSzs) := by
  refine v_ok (F__law_sizes T) sc__law_sizes (by decide) (by decide) ?_ (fun cdv A outer s H W ds n Q' hC hE hr h => ⟨_, (vss_cons (vs_set (ps_set (i := 1) sc__law_sizes.nd rfl (Or.inl rfl) (ve_lst (va_cons (ve_tup (va_cons (ve_int pe_int) (va_cons (ve_int pe_int) va_nil))) (va_cons (ve_tup (va_cons (ve_int pe_int) (va_cons (ve_int pe_int) va_nil))) (va_cons (ve_tup (va_cons (ve_int pe_int) (va_cons (ve_int pe_int) (va_cons (ve_int pe_int) va_nil)))) (va_cons (ve_tup (va_cons (ve_int pe_int) (va_cons (ve_int pe_int) (va_cons (ve_int pe_int) (va_cons (ve_int pe_int) (va_cons (ve_int pe_int) (va_cons (ve_int pe_int) va_nil))))))) (va_cons (ve_tup (va_cons (ve_int pe_int) va_nil)) (va_cons (ve_tup (va_cons (ve_int pe_int) va_nil)) (va_cons (ve_tup (va_cons (ve_int pe_int) va_nil)) (va_cons (ve_tup (va_cons (ve_int pe_int) (va_cons (ve_int pe_int) va_nil))) (va_cons (ve_tup (va_cons (ve_int pe_int) (va_cons (ve_int pe_int) (va_cons (ve_int pe_int) va_nil)))) (va_cons (ve_tup (va_cons (ve_int pe_int) (va_cons (ve_int pe_int) va_nil))) va_nil)))))))))))))
  (vss_one (vs_ret (ps_ret (ve_call hC hE (pe_call (v__law_of T) (hr.mono (by decide)) (by rfl) (T.glo "_law_of" rfl) (F__law_of T).kp (B__law_of T) .nil (passes_call (takes_of rfl rfl rfl rfl) (fun _ _ _ _ h => h)) (va_cons (ve_var (pv 0)) (va_cons (ve_op (op_addD K) d_add (ve_var (pv 1)) (ve_lst (va_cons (ve_tup (va_cons (ve_op (op_addD K) d_add (ve_int pe_int) (ve_call hC hE (pe_call (v__law_draw T) (hr.mono (by decide)) (by rfl) (T.glo "_law_draw" rfl) (F__law_draw T).kp (B__law_draw T) .nil pass0 (va_cons (ve_var (pv 0)) (va_cons (ve_int pe_int) va_nil))) (fun _ _ _ => .nil))) (va_cons (ve_op (op_addD K) d_add (ve_int pe_int) (ve_call hC hE (pe_call (v__law_draw T) (hr.mono (by decide)) (by rfl) (T.glo "_law_draw" rfl) (F__law_draw T).kp (B__law_draw T) .nil pass0 (va_cons (ve_var (pv 0)) (va_cons (ve_int pe_int) va_nil))) (fun _ _ _ => .nil))) va_nil))) va_nil))) va_nil))) (fun _ _ _ => .nil)))))), ?_⟩)
  · rintro ds n Q E ⟨rfl, _⟩; rfl
  · obtain ⟨rfl, hn, hq⟩ := h
    walk_at "vin"
    walk_at "vx"
    refine y_draw (by omega) (by omega) (by omega) fun a a0 a1 => ?_
    walk_at "vx"
    refine y_draw (by omega) (by omega) (by omega) fun b b0 b1 => ?_
    walk_at "vx"
    refine VF.y_addL (by simp) ?_
    walk_at "vx"
    refine y_of (by omega) (by simp) (by simp) fun i x hx => ?_
    have hx2 : ∃ xs, x = .tup (VF.iD xs) ∧ SzS xs := by
      have hm := List.mem_of_getElem? hx
      simp only [List.cons_append, List.nil_append, List.mem_cons, List.not_mem_nil, or_false] at hm
      rcases hm with rfl | rfl | rfl | rfl | rfl | rfl | rfl | rfl | rfl | rfl | rfl
      · exact ⟨[2, 2], rfl, szs_of rfl rfl rfl⟩
      · exact ⟨[2, 3], rfl, szs_of rfl rfl rfl⟩
      · exact ⟨[3, 2, 2], rfl, szs_of rfl rfl rfl⟩
      · exact ⟨[2, 1, 2, 2, 2, 2], rfl, szs_of rfl rfl rfl⟩
      · exact ⟨[64], rfl, szs_of rfl rfl rfl⟩
      · exact ⟨[5], rfl, szs_of rfl rfl rfl⟩
      · exact ⟨[1], rfl, szs_of rfl rfl rfl⟩
      · exact ⟨[1, 7], rfl, szs_of rfl rfl rfl⟩
      · exact ⟨[4, 4, 4], rfl, szs_of rfl rfl rfl⟩
      · exact ⟨[2, 9], rfl, szs_of rfl rfl rfl⟩
      · exact ⟨[1 + a, 1 + b], rfl, szs2 a0 a1 b0 b1⟩
    obtain ⟨xs, rfl, hs⟩ := hx2
    walk_at "vx"
    exact hq xs _ hs (by omega)
theorem y_szs {n : Int} {Q : VF.DV → Int → Prop} {E : XV} (hn : n ≤ 900000) (hq : ∀ xs n', SzS xs → n' ≤ n + 3 → Q (.tup (VF.iD xs)) n') : sSzs ([.bag] ++ []) n Q E := ⟨rfl, hn, hq⟩
end
end BF
/-! ## One deed: told, taken back, bent -/
namespace BF
open PySem PySem.Spec PyProof.Rows L2 VF
theorem lay_tl {x : Str} : (PyData.str x).canLay0 = true ↔ ∀ c ∈ TL.tl x, c < 0x110000 := by
  show x.cps.all (· < 0x110000) = true ↔ _
  rw [← Array.all_toList, List.all_eq_true]
  exact ⟨fun h c hc => of_decide_eq_true (h c hc), fun h c hc => decide_eq_true (h c hc)⟩
theorem lay_app {x y : Str} (hx : (PyData.str x).canLay0 = true) (hy : (PyData.str y).canLay0 = true) : (PyData.str (x ++ y)).canLay0 = true := by
  rw [lay_tl] at hx hy ⊢
  intro c hc
  rw [TL.tl_append] at hc
  rcases List.mem_append.mp hc with h | h
  · exact hx c h
  · exact hy c h
theorem joinL_mem {a : List Nat} {c : Nat} : ∀ {ws : List (List Nat)}, c ∈ TL.joinL a ws → c ∈ a ∨ ∃ w ∈ ws, c ∈ w
  | [], h => by cases h
  | [w], h => .inr ⟨w, List.mem_cons_self, h⟩
  | w :: v :: ws, h => by
    have h : c ∈ w ++ (a ++ TL.joinL a (v :: ws)) := h
    rcases List.mem_append.mp h with h | h
    · exact .inr ⟨w, List.mem_cons_self, h⟩
    rcases List.mem_append.mp h with h | h
    · exact .inl h
    · rcases joinL_mem h with h | ⟨u, hu, h⟩
      · exact .inl h
      · exact .inr ⟨u, List.mem_cons_of_mem _ hu, h⟩
theorem lay_text {xs : List Int} {D : Dd} (hs : SzOk xs) (hp : prod xs ≤ 64) (h : DdOk xs D) : (PyData.str (textD D)).canLay0 = true := by
  have sm := dd_small hs hp h
  have ls : ∀ {i : Int}, -128 ≤ i ∧ i ≤ 128 → (PyData.str (tS i)).canLay0 = true := fun h => (ts_ok h.1 h.2).2.2
  have hw : ∀ w ∈ wordsD D, (PyData.str w).canLay0 = true := by
    cases D with
    | mv t x =>
      intro w hw
      simp only [wordsD, List.mem_cons, List.not_mem_nil, or_false] at hw
      rcases hw with rfl | rfl | rfl
      · exact lay_move
      · exact ls (sm _ (.inl rfl))
      · exact ls (sm _ (.inr rfl))
    | sw ns =>
      intro w hw
      simp only [wordsD] at hw
      rcases List.mem_cons.mp hw with rfl | hw
      · exact lay_swap
      · obtain ⟨i, hi, rfl⟩ := List.mem_map.mp hw
        exact ls (sm _ hi)
    | ad t rs tab =>
      intro w hw
      simp only [wordsD] at hw
      rcases List.mem_append.mp hw with hw | hw
      · rcases List.mem_append.mp hw with hw | hw
        · rcases List.mem_append.mp hw with hw | hw
          · simp only [List.mem_cons, List.not_mem_nil, or_false] at hw
            rcases hw with rfl | rfl
            · exact lay_add
            · exact ls (sm _ (.inl rfl))
          · obtain ⟨r, hr, rfl⟩ := List.mem_map.mp hw
            exact lay_app (lay_app (ls (sm _ (.inr (.inr ⟨r, hr, .inl rfl⟩)))) (by decide +kernel)) (ls (sm _ (.inr (.inr ⟨r, hr, .inr rfl⟩))))
        · rw [List.mem_singleton.mp hw]
          decide +kernel
      · obtain ⟨i, hi, rfl⟩ := List.mem_map.mp hw
        exact ls (sm _ (.inr (.inl hi)))
  rw [lay_tl]
  intro c hc
  unfold textD at hc
  rw [joinS] at hc
  rcases joinL_mem hc with hc | ⟨w, hw2, hc⟩
  · exact lay_tl.mp (by decide +kernel) c hc
  · obtain ⟨v, hv, rfl⟩ := List.mem_map.mp hw2
    exact lay_tl.mp (hw v hv) c hc
theorem pz_span {m : Int} {D : Dd} : Pz 1 (spanD m D) := by
  cases D <;> exact .tup (pz_c .int (pz_c .int pz_e)) (by simp)
def sDeeds : DSp := fun ds n Q _ => ∃ z xs, ds = [.bag, z] ∧ SqD z (VF.iD xs) ∧ SzS xs ∧ n ≤ 600000 ∧ ∀ n', n' ≤ n + 780 → Q (.bl true) n'
theorem y_cut {s r : WS} {D : WEnds} {τ : VF.ST} {n : Int} (I : VF.ST → Int → Prop) (h2 : ∀ τ n, I τ n → r D τ n) (h1 : ∀ R : VF.ST → Int → Prop, (∀ τ n, I τ n → R τ n) → s { D with nx := R } τ n) : wSeq s r D τ n := h1 _ h2
section
variable {P : Program} {w : World} {K : PySem.W.Frag} {mg : Str → Option Value} {base : Heap}
theorem sc__law_deeds : FnScope ["_law_bag_here", "_law_sizes_here", "_law_deed_here", "_law_undone_here", "_law_span_here", "_law_told", "_law_thing", "_law_lap", "_law_bent_here"] ["_law_bag_here", "_law_sizes_here"] (defScope s__law_deeds) := ⟨rfl, rfl, rfl, by decide +kernel, rfl, by decide +kernel, by decide +kernel⟩
theorem v__law_deeds (T : TT K mg) (L : LimT K w) (hTB : ∀ p ∈ tf, LamX.TabB base mg (He.cT K p).1 (He.cT K p).2) : FnOk P w K mg base (L2.CX P w) 13 (He.ga K "_law_deeds") (fdOf K ("_law_deeds", none)) ["_law_bag_here", "_law_sizes_here"] (liftSp K (Cs K) sDeeds) := by
  refine v_ok (F__law_deeds T) sc__law_deeds (by decide) (by decide) ?_ (fun cdv A outer s H W ds n Q' hC hE hr h => ⟨_, (vss_cons (vs_set (ps_set (i := 2) sc__law_deeds.nd rfl (Or.inl rfl) (ve_call hC hE (pe_call (v__law_deed T) (hr.mono (by decide)) (by rfl) (T.glo "_law_deed" rfl) (F__law_deed T).kp (B__law_deed T) .nil (passes_call (takes_of rfl rfl rfl rfl) (fun _ _ _ _ h => h)) (va_cons (ve_var (pv 0)) (va_cons (ve_var (pv 1)) (va_cons (ve_int pe_int) (va_cons (ve_int pe_int) va_nil))))) (fun _ _ _ => .nil))))
  (vss_cons (vs_if (PW.pt (vw_and (vt_cmp (op_eqU K hr.units) d_eq (ve_ix (ix_LTK K) d_ix (ve_varZ (pv 2)) (ve_int pe_int) (fun _ _ => rfl)) (ve_str pe_str) (nomark _)) (vw_and1 (vt_cmp (op_eqU K hr.units) d_eq (ve_call hC hE (pe_call (v__law_draw T) (hr.mono (by decide)) (by rfl) (T.glo "_law_draw" rfl) (F__law_draw T).kp (B__law_draw T) .nil pass0 (va_cons (ve_var (pv 0)) (va_cons (ve_int pe_int) va_nil))) (fun _ _ _ => .nil)) (ve_int pe_int) (nomark _))))) (vss_one (vs_set (ps_set (i := 2) sc__law_deeds.nd rfl (Or.inl rfl) (ve_tup (va_cons (ve_str pe_str) (va_cons (ve_ix (ix_LTK K) d_ix (ve_varZ (pv 2)) (ve_int pe_int) (fun _ _ => rfl)) (va_cons (ve_op op_sub d_I0 (ve_call hC hE (pe_call (v__law_draw T) (hr.mono (by decide)) (by rfl) (T.glo "_law_draw" rfl) (F__law_draw T).kp (B__law_draw T) .nil pass0 (va_cons (ve_var (pv 0)) (va_cons (ve_int pe_int) va_nil))) (fun _ _ _ => .nil)) (ve_int pe_int)) va_nil))))))) vss_nil)
  (vss_cons (vs_par (ps_par (i := 3) (j := 4) rfl sc__law_deeds.nd rfl rfl (by decide) rfl rfl (va_cons (ve_call hC hE (pe_call (v__law_undone T) (hr.mono (by decide)) (by rfl) (T.glo "_law_undone" rfl) (F__law_undone T).kp (B__law_undone T) .nil (passes_call (takes_of rfl rfl rfl rfl) (fun _ _ _ _ h => h)) (va_cons (ve_var (pv 1)) (va_cons (ve_var (pv 2)) va_nil))) (fun _ _ _ => .nil)) (va_cons (ve_call hC hE (pe_call (v__law_span T) (hr.mono (by decide)) (by rfl) (T.glo "_law_span" rfl) (F__law_span T).kp (B__law_span T) .nil (passes_call (takes_of rfl rfl rfl rfl) (fun _ _ _ _ h => h)) (va_cons (ve_var (pv 1)) (va_cons (ve_varZ (pv 2)) va_nil))) (fun _ _ _ => .nil)) va_nil)) rfl))
  (vss_cons (vs_set (ps_set (i := 5) sc__law_deeds.nd rfl (Or.inl rfl) (ve_lst (va_cons (ve_call hC hE (pe_call (v_inverse_deed T) (hr.mono (by decide)) (by rfl) (T.glo "inverse_deed" rfl) (F_inverse_deed T).kp (B_inverse_deed T) .nil (passes_call (takes_of rfl rfl rfl rfl) (fun _ _ _ _ h => h)) (va_cons (ve_var (pv 1)) (va_cons (ve_varZ (pv 2)) va_nil))) (fun _ _ _ => .nil)) (va_cons (ve_call hC hE (pe_call (v_deed_span T) (hr.mono (by decide)) (by rfl) (T.glo "deed_span" rfl) (F_deed_span T).kp (B_deed_span T) .nil (passes_call (takes_of rfl rfl rfl rfl) (fun _ _ _ _ h => h)) (va_cons (ve_var (pv 1)) (va_cons (ve_varZ (pv 2)) va_nil))) (fun _ _ _ => .nil)) (va_cons (ve_call hC hE (pe_call (v_deed_text T) (hr.mono (by decide)) (by rfl) (T.glo "deed_text" rfl) (F_deed_text T).kp (B_deed_text T) .nil (passes_call (takes_of rfl rfl rfl rfl) (fun _ _ _ _ h => h)) (va_cons (ve_varZ (pv 2)) va_nil)) (fun _ _ _ => .nil)) (va_cons (ve_call hC hE (pe_call (v_deed_span T) (hr.mono (by decide)) (by rfl) (T.glo "deed_span" rfl) (F_deed_span T).kp (B_deed_span T) .nil (passes_call (takes_of rfl rfl rfl rfl) (fun _ _ _ _ h => h)) (va_cons (ve_cb (pe_callTy (call_listLTK K) (by rfl) (T.free "list" rfl) boot_list (va_cons (ve_var (pv 1)) va_nil)) d_list) (va_cons (ve_var (pv 3)) va_nil))) (fun _ _ _ => .nil)) va_nil)))))))
  (vss_cons (vs_if (vt_not (vt_val (ve_call hC hE (pe_call (v__law_like T 5) (hr.mono (by decide)) (by rfl) (T.glo "_law_like" rfl) (F__law_like T).kp (B__law_like T) .nil (passes_call (takes_of rfl rfl rfl rfl) (fun _ _ _ _ h => h)) (va_cons (ve_var (pv 5)) (va_cons (ve_lst (va_cons (ve_var (pv 3)) (va_cons (ve_var (pv 4)) (va_cons (ve_call hC hE (pe_call (v__law_deed_text T) (hr.mono (by decide)) (by rfl) (T.glo "_law_deed_text" rfl) (F__law_deed_text T).kp (B__law_deed_text T) .nil (passes_call (takes_of rfl rfl rfl rfl) (fun _ _ _ _ h => h)) (va_cons (ve_varZ (pv 2)) va_nil)) (fun _ _ _ => .nil)) (va_cons (ve_call hC hE (pe_call (v__law_span T) (hr.mono (by decide)) (by rfl) (T.glo "_law_span" rfl) (F__law_span T).kp (B__law_span T) .nil (passes_call (takes_of rfl rfl rfl rfl) (fun _ _ _ _ h => h)) (va_cons (ve_var (pv 1)) (va_cons (ve_var (pv 3)) va_nil))) (fun _ _ _ => .nil)) va_nil))))) va_nil))) (fun _ _ _ => .nil)))) (vss_one (vs_ret (ps_ret (ve_bl pe_bl)))) vss_nil)
  (vss_cons (vs_if (PW.pt (vw_or (vt_not (vt_val (ve_call hC hE (pe_call (v__law_like T 5) (hr.mono (by decide)) (by rfl) (T.glo "_law_like" rfl) (F__law_like T).kp (B__law_like T) .nil (passes_call (takes_of rfl rfl rfl rfl) (fun _ _ _ _ h => h)) (va_cons (ve_call hC hE (pe_call (v_inverse_deed T) (hr.mono (by decide)) (by rfl) (T.glo "inverse_deed" rfl) (F_inverse_deed T).kp (B_inverse_deed T) .nil (passes_call (takes_of rfl rfl rfl rfl) (fun _ _ _ _ h => h)) (va_cons (ve_cb (pe_callTy (call_listLTK K) (by rfl) (T.free "list" rfl) boot_list (va_cons (ve_var (pv 1)) va_nil)) d_list) (va_cons (ve_call hC hE (pe_call (v_inverse_deed T) (hr.mono (by decide)) (by rfl) (T.glo "inverse_deed" rfl) (F_inverse_deed T).kp (B_inverse_deed T) .nil (passes_call (takes_of rfl rfl rfl rfl) (fun _ _ _ _ h => h)) (va_cons (ve_var (pv 1)) (va_cons (ve_varZ (pv 2)) va_nil))) (fun _ _ _ => .nil)) va_nil))) (fun _ _ _ => .nil)) (va_cons (ve_varZ (pv 2)) va_nil))) (fun _ _ _ => .nil)))) (vw_or1 (vt_not (vt_val (ve_call hC hE (pe_call (v__law_judged T L hTB) (hr.mono (by decide)) (by rfl) (T.glo "_law_judged" rfl) (F__law_judged T).kp (B__law_judged T) .nil (passes_call (takes_of rfl rfl rfl rfl) (fun _ _ _ _ h => h)) (va_cons (ve_var (pv 1)) (va_cons (ve_varZ (pv 2)) va_nil))) (fun _ _ _ => .nil))))))) (vss_one (vs_ret (ps_ret (ve_bl pe_bl)))) vss_nil)
  (vss_cons (vs_set (ps_set (i := 6) sc__law_deeds.nd rfl (Or.inl rfl) (ve_varZ (pv 2))))
  (vss_cons (vs_for (passes_of rfl) rfl (vi_rng1 (pi_range1 (by rfl) (T.free "range" rfl) (va_cons (ve_int pe_int) va_nil))) (vg_name (pg_name (i := 7) sc__law_deeds.nd rfl (Or.inl rfl))) (vss_cons (vs_set (ps_set (i := 8) sc__law_deeds.nd rfl (Or.inl rfl) (ve_call hC hE (pe_call (v__law_bent T) (hr.mono (by decide)) (by rfl) (T.glo "_law_bent" rfl) (F__law_bent T).kp (B__law_bent T) .nil (passes_call (takes_of rfl rfl rfl rfl) (fun _ _ _ _ h => h)) (va_cons (ve_var (pv 0)) (va_cons (ve_var (pv 1)) (va_cons (ve_var (pv 6)) va_nil)))) (fun _ _ _ => .nil))))
  (vss_cons (vs_if (vt_not (vt_val (ve_call hC hE (pe_call (v__law_judged T L hTB) (hr.mono (by decide)) (by rfl) (T.glo "_law_judged" rfl) (F__law_judged T).kp (B__law_judged T) .nil (passes_call (takes_of rfl rfl rfl rfl) (fun _ _ _ _ h => h)) (va_cons (ve_var (pv 1)) (va_cons (ve_var (pv 8)) va_nil))) (fun _ _ _ => .nil)))) (vss_one (vs_ret (ps_ret (ve_bl pe_bl)))) vss_nil)
  (vss_one (vs_set (ps_set (i := 6) sc__law_deeds.nd rfl (Or.inl rfl) (ve_if (vt_val (ve_call hC hE (pe_call (v__law_right T) (hr.mono (by decide)) (by rfl) (T.glo "_law_right" rfl) (F__law_right T).kp (B__law_right T) .nil (passes_call (takes_of rfl rfl rfl rfl) (fun _ _ _ _ h => h)) (va_cons (ve_var (pv 1)) (va_cons (ve_var (pv 8)) va_nil))) (fun _ _ _ => .nil))) (ve_var (pv 8)) (ve_varZ (pv 2)))))))))
  (vss_one (vs_ret (ps_ret (ve_bl pe_bl)))))))))))), ?_⟩)
  · rintro ds n Q E ⟨z, xs, rfl, _⟩; rfl
  · obtain ⟨z, xs, rfl, hz, hs, hn, hq⟩ := h
    walk_at "vin"
    walk_at "vx"
    refine y_dd hz hs (by omega) fun D n1 ok hn1 => ?_
    refine VF.y_nx rfl ?_
    with_reducible refine y_cut (fun τ m => ∃ D, DdOk xs D ∧ m ≤ n + 742 ∧ τ = [some (.d .bag), some (.d z), some (.d (dZ D)), none, none, none, none, none, none]) ?_ fun R key => ?_
    · rintro τ m ⟨D, ok, hm, rfl⟩
      have fg := fgt_dZ D
      have iok := inv_ok hs.1 ok
      have p1 := pz_dD hs ok
      have p2 := pz_dD hs iok
      walk_at "vx"
      refine y_undone hz hs.1 hs.2.1 ok ?_
      walk_at "vx"
      refine VF.y_varZ rfl fg ?_
      walk_at "vx"
      refine y_span hz ok ?_
      walk_at "vx"
      refine VF.y_varZ rfl fg ?_
      walk_at "vx"
      refine y_inv hz hs.1 hs.2.1 ok ?_
      walk_at "vx"
      refine VF.y_varZ rfl fg ?_
      walk_at "vx"
      refine y_span hz ok ?_
      walk_at "vx"
      refine VF.y_varZ rfl fg ?_
      walk_at "vx"
      refine y_text hs.1 hs.2.1 ok ?_
      walk_at "vx"
      refine y_listS (sq_of hz) ?_
      walk_at "vx"
      refine y_span (.inl rfl) iok ?_
      walk_at "vx"
      refine VF.y_varZ rfl fg ?_
      walk_at "vx"
      refine y_text hs.1 hs.2.1 ok ?_
      walk_at "vx"
      refine y_span hz iok ?_
      walk_at "vx"
      refine y_like (k := 5) (.lst (pz_c (p2.mono (by decide)) (pz_c (pz_span.mono (by decide)) (pz_c (.str (lay_text hs.1 hs.2.1 ok)) (pz_c (pz_span.mono (by decide)) pz_e)))) (by simp)) ?_
      walk_at "vx"
      refine y_listS (sq_of hz) ?_
      walk_at "vx"
      refine VF.y_varZ rfl fg ?_
      walk_at "vx"
      refine y_inv hz hs.1 hs.2.1 ok ?_
      walk_at "vx"
      refine y_inv (.inl rfl) hs.1 hs.2.1 iok ?_
      rw [inv_inv hs.1 ok]
      walk_at "vx"
      refine VF.y_varZ rfl fg ?_
      walk_at "vx"
      refine y_like (p1.mono (by decide)) ?_
      walk_at "vx"
      refine VF.y_varZ rfl fg ?_
      walk_at "vx"
      refine y_judged hz hs (p1.mono (by decide)) ?_
      walk_at "vx"
      refine VF.y_varZ rfl fg ?_
      walk_at "vx"
      refine VF.y_loop (fun i τ n' => n' ≤ m + 9 * i ∧ ∃ (B : Dd) (o3 o4 o5 o7 o8 : Option SV), DdOk xs B ∧ τ = [some (.d .bag), some (.d z), some (.d (dZ D)), o3, o4, o5, some (.d (dD B)), o7, o8]) ⟨by omega, D, _, _, _, none, none, ok, rfl⟩ ?_ ?_
      · rintro i d τ n' hi ⟨hn', B, o3, o4, o5, o7, o8, bok, rfl⟩
        have hi3 : i < 3 := by
          have := (List.getElem?_eq_some_iff.mp hi).1
          rw [rngD_len] at this
          exact this
        walk_at "vx"
        refine y_bent hz hs bok (by omega) fun x n2 px hn2 => ?_
        walk_at "vx"
        refine y_judged hz hs px ?_
        walk_at "vx"
        refine y_deed hz hs.1 hs.2.1 (px.1.mono (by decide)) ?_
        cases eb : deedB xs x with
        | true =>
          obtain ⟨X, rfl, xok⟩ := deedB_to eb
          walk_at "vx"
          exact ⟨by omega, X, _, _, _, _, _, xok, rfl⟩
        | false =>
          walk_at "vx"
          refine VF.y_varZ rfl fg ?_
          walk_at "vx"
          exact ⟨by omega, D, _, _, _, _, _, ok, rfl⟩
      · rintro τ n' ⟨hn', B, o3, o4, o5, o7, o8, bok, rfl⟩
        rw [rngD_len] at hn'
        walk_at "vx"
        exact hq _ (by omega)
    · have fg := fgt_dZ D
      walk_at "vx"
      refine VF.y_varZ rfl fg ?_
      cases D with
      | mv t x =>
        unfold dD
        walk_at "vx"
        refine y_draw (by omega) (by omega) (by omega) fun a a0 a1 => ?_
        walk_at "vx"
        by_cases c1 : a = 0
        · rw [decide_eq_true c1]
          walk_at "vx"
          refine VF.y_varZ rfl fg ?_
          unfold dD
          walk_at "vx"
          refine y_draw (by omega) (by omega) (by omega) fun b b0 b1 => ?_
          walk_at "vx"
          exact key _ _ ⟨.mv t (b - 12), ⟨ok.1, ok.2.1, by omega, by omega⟩, by omega, rfl⟩
        · rw [decide_eq_false c1]
          walk_at "vx"
          exact key _ _ ⟨.mv t x, ok, by omega, rfl⟩
      | sw ns =>
        unfold dD
        walk_at "vx"
        exact key _ _ ⟨.sw ns, ok, by omega, rfl⟩
      | ad t rs tab =>
        unfold dD
        walk_at "vx"
        exact key _ _ ⟨.ad t rs tab, ok, by omega, rfl⟩
theorem y_deeds {z : VF.DV} {xs : List Int} {n : Int} {Q : VF.DV → Int → Prop} {E : XV} (hz : SqD z (VF.iD xs)) (hs : SzS xs) (hn : n ≤ 600000) (hq : ∀ n', n' ≤ n + 780 → Q (.bl true) n') : sDeeds ([.bag, z] ++ []) n Q E := ⟨z, xs, rfl, hz, hs, hn, hq⟩
end
end BF
/-! ## the law -/
namespace BF
open PySem PySem.Spec PyProof.Rows L2 VF
def spLaw (K : PySem.W.Frag) : Sp := fun vs H Q E => ∃ (a : Addr) (ns : List Int), vs = [.ref a] ∧ E = C8.E0 ∧ SqL K H a (ns.map V.int) ∧ LamX.Tabs (tabs K) H ∧ ∀ H', Q (.bl true) H'
theorem y_repT {xs ys : List VF.DV} {k : Int} {P : DP} (h : xs ≠ []) (h2 : 2 ≤ k) (h3 : k ≤ 1000) (h4 : xs.length ≤ 1000) (e : (List.replicate k.toNat xs).flatten = ys) (q : P (.tup ys)) : wRepT (.tup xs) (.int k) P := ⟨h, h2, h3, h4, by rw [e]; exact q⟩
theorem mid_rel {K : PySem.W.Frag} {b sc : Addr} {ms : List Int} {H : Hp} {N : Nat} {x : Option V} {σ : L2.St} (hb : Bag K b sc ms H 0) (hT : LamX.Tabs (tabs K) H) (hN : N < 1000) (e : σ = x :: some (.ref b) :: List.replicate N none) (hm : (bagC K b sc ms).b ∈ [b]) :
    Rel K (midW (bagC K b sc ms) [b] H hm) [] [] [] (none :: some (.d .bag) :: List.replicate N none) 0 σ H := by
  subst e
  have al : AlN [b] H := fun y hy => by
    rw [List.mem_singleton.mp hy]
    obtain ⟨_, _, i, r, m, c, h, _⟩ := hb
    exact ⟨_, h, .inl ⟨_, rfl⟩⟩
  refine ⟨by simp, by simp; omega, fun i s hs => ?_, nofun, List.nodup_nil, nofun, Ey.refl H, hb, ⟨0, hb⟩, hT, al, al, fun y hy => .inl (List.mem_singleton.mp hy)⟩
  match i, hs with
  | 1, hs =>
    cases hs
    exact ⟨.ref b, rfl, .bag⟩
  | i + 2, hs =>
    rw [List.getElem?_cons_succ, List.getElem?_cons_succ, List.getElem?_replicate] at hs
    split at hs <;> cases hs
section
variable {P : Program} {w : World} {K : PySem.W.Frag} {mg : Str → Option Value} {base : Heap}
theorem sc_law : FnScope ["_law_script", "_law_bag_here", "_law_turn", "_law_sizes_here", "_law_odds", "_law_thing", "_law_right_here", "_law_told", "_law_many", "_law_due", "_law_odd_here"] ["_law_script"] (defScope s_law) := ⟨rfl, rfl, rfl, by decide +kernel, rfl, by decide +kernel, by decide +kernel⟩
theorem ok_law (T : TT K mg) (L : LimT K w) (hTB : ∀ p ∈ tf, LamX.TabB base mg (He.cT K p).1 (He.cT K p).2) : FnOk P w K mg base (L2.CX P w) 15 (He.ga K "law") (fdOf K ("law", none)) ["_law_script"] (spLaw K) := by
  obtain ⟨oc, od, dV, kV, doc, pm, an, cdv', ct, osl, hfd, lkT, hcT, _, _⟩ := (F__law_ask T).ex
  have bT := B__law_ask T
  rw [hfd] at bT lkT
  have hmT : ((He.cT K ("law", none)).2, ("law" ++ ".<locals>." ++ "<lambda>" : Str)) ∈ tabs K := List.mem_cons_of_mem _ List.mem_cons_self
  have huT : ∀ p ∈ tabs K, p.1 = (He.cT K ("law", none)).2 → p.2 = ("law" ++ ".<locals>." ++ "<lambda>" : Str) := fun p hp z => by
    rcases List.mem_cons.mp hp with e | hp
    · rw [e] at z
      exact absurd z (tab_ne T)
    · rw [List.mem_singleton.mp hp]
  refine fn_okL (p := ("law", none)) (F_law T) sc_law (fun vs H Q E h => ?_) (fun A outer s H vs Q E hr h => ?_)
  · obtain ⟨a, ns, rfl, _⟩ := h
    rfl
  · obtain ⟨a, ns, rfl, rfl, ha, hT, hQ⟩ := h
    refine ⟨_, pss_cons (ps_set (i := 1) sc_law.nd rfl (Or.inl rfl) (pe_call (ok__law_bag T) (hr.mono (by decide)) (by rfl) (T.glo "_law_bag" rfl) (F__law_bag T).kp (B__law_bag T) .nil pass0 (pa_cons (pv 0) pa_nil))) (pss_mid (Cs := Cs K) fun C M H0 hb hC hE => (vss_cons (vs_for (passes_of rfl) rfl (vi_rng1 (pi_range1 (by rfl) (T.free "range" rfl) (va_cons (ve_int pe_int) va_nil))) (vg_name (pg_name (i := 2) sc_law.nd rfl (Or.inl rfl))) (vss_cons (vs_set (ps_set (i := 3) sc_law.nd rfl (Or.inl rfl) (ve_call hC hE (pe_call (v__law_sizes T) (hr.mono (by decide)) (by rfl) (T.glo "_law_sizes" rfl) (F__law_sizes T).kp (B__law_sizes T) .nil (passes_call (takes_of rfl rfl rfl rfl) (fun _ _ _ _ h => h)) (va_cons (ve_var (pv 1)) va_nil)) (fun _ _ _ => .nil))))
  (vss_cons (vs_if (PW.pt (vw_or (vt_not (vt_val (ve_call hC hE (pe_call (v__law_deeds T L hTB) (hr.mono (by decide)) (by rfl) (T.glo "_law_deeds" rfl) (F__law_deeds T).kp (B__law_deeds T) .nil (passes_call (takes_of rfl rfl rfl rfl) (fun _ _ _ _ h => h)) (va_cons (ve_var (pv 1)) (va_cons (ve_var (pv 3)) va_nil))) (fun _ _ _ => .nil)))) (vw_or (vt_not (vt_val (ve_call hC hE (pe_call (v__law_deeds T L hTB) (hr.mono (by decide)) (by rfl) (T.glo "_law_deeds" rfl) (F__law_deeds T).kp (B__law_deeds T) .nil (passes_call (takes_of rfl rfl rfl rfl) (fun _ _ _ _ h => h)) (va_cons (ve_var (pv 1)) (va_cons (ve_var (pv 3)) va_nil))) (fun _ _ _ => .nil)))) (vw_or1 (vt_not (vt_val (ve_call hC hE (pe_call (v__law_signs T) (hr.mono (by decide)) (by rfl) (T.glo "_law_signs" rfl) (F__law_signs T).kp (B__law_signs T) .nil (passes_call (takes_of rfl rfl rfl rfl) (fun _ _ _ _ h => h)) (va_cons (ve_var (pv 1)) (va_cons (ve_var (pv 3)) va_nil))) (fun _ _ _ => .nil)))))))) (vss_one (vs_ret (ps_ret (ve_bl pe_bl)))) vss_nil)
  (vss_cons (vs_set (ps_set (i := 4) sc_law.nd rfl (Or.inl rfl) (ve_lst (va_cons (ve_non pe_non) (va_cons (ve_int pe_int) (va_cons (ve_str pe_str) (va_cons (ve_tup va_nil) (va_cons (ve_lst va_nil) (va_cons (ve_lst (va_cons (ve_int pe_int) va_nil)) (va_cons (ve_tup (va_cons (ve_bl pe_bl) va_nil)) (va_cons (ve_op (op_repTK K) d_repT (ve_tup (va_cons (ve_int pe_int) va_nil)) (ve_int pe_int)) (va_cons (ve_op (op_repTK K) d_repT (ve_tup (va_cons (ve_int pe_int) va_nil)) (ve_int pe_int)) (va_cons (ve_tup (va_cons (ve_int pe_int) va_nil)) (va_cons (ve_tup (va_cons (ve_int pe_int) va_nil)) (va_cons (ve_tup (va_cons (ve_int pe_int) (va_cons (ve_op op_sub d_I0 (ve_int pe_int) (ve_int pe_int)) va_nil))) (va_cons (ve_lst (va_cons (ve_int pe_int) va_nil)) (va_cons (ve_tup (va_cons (ve_int pe_int) (va_cons (ve_str pe_str) va_nil))) (va_cons (ve_tup (va_cons (ve_lst (va_cons (ve_int pe_int) va_nil)) va_nil)) va_nil))))))))))))))))))
  (vss_cons (vs_for (passes_of rfl) rfl (vi_list rfl (ve_lst (va_cons (ve_call hC hE (pe_call (v__law_of T) (hr.mono (by decide)) (by rfl) (T.glo "_law_of" rfl) (F__law_of T).kp (B__law_of T) .nil (passes_call (takes_of rfl rfl rfl rfl) (fun _ _ _ _ h => h)) (va_cons (ve_var (pv 1)) (va_cons (ve_var (pv 4)) va_nil))) (fun _ _ _ => .nil)) (va_cons (ve_call hC hE (pe_call (v__law_tuple_bent T) (hr.mono (by decide)) (by rfl) (T.glo "_law_tuple_bent" rfl) (F__law_tuple_bent T).kp (B__law_tuple_bent T) .nil (passes_call (takes_of rfl rfl rfl rfl) (fun _ _ _ _ h => h)) (va_cons (ve_var (pv 1)) (va_cons (ve_var (pv 3)) (va_cons (ve_var (pv 3)) va_nil)))) (fun _ _ _ => .nil)) (va_cons (ve_cb (pe_callTy (call_listLTK K) (by rfl) (T.free "list" rfl) boot_list (va_cons (ve_var (pv 3)) va_nil)) d_list) va_nil))))) (vg_name (pg_name (i := 5) sc_law.nd rfl (Or.inr rfl))) (vss_cons (vs_set (ps_set (i := 6) sc_law.nd rfl (Or.inl rfl) (ve_call hC hE (pe_call (v__law_sizes_right T) (hr.mono (by decide)) (by rfl) (T.glo "_law_sizes_right" rfl) (F__law_sizes_right T).kp (B__law_sizes_right T) .nil (passes_call (takes_of rfl rfl rfl rfl) (fun _ _ _ _ h => h)) (va_cons (ve_var (pv 5)) va_nil)) (fun _ _ _ => .nil))))
  (vss_cons (vs_if (vt_not (vt_val (ve_call hC hE (pe_call (v__law_like T 4) (hr.mono (by decide)) (by rfl) (T.glo "_law_like" rfl) (F__law_like T).kp (B__law_like T) .nil (passes_call (takes_of rfl rfl rfl rfl) (fun _ _ _ _ h => h)) (va_cons (ve_call hC hE (pe_call (v_is_sizes T) (hr.mono (by decide)) (by rfl) (T.glo "is_sizes" rfl) (F_is_sizes T).kp (B_is_sizes T) .nil (passes_call (takes_of rfl rfl rfl rfl) (fun _ _ _ _ h => h)) (va_cons (ve_var (pv 5)) va_nil)) (fun _ _ _ => .nil)) (va_cons (ve_var (pv 6)) va_nil))) (fun _ _ _ => .nil)))) (vss_one (vs_ret (ps_ret (ve_bl pe_bl)))) vss_nil)
  (vss_cons (vs_par (ps_par (i := 7) (j := 8) rfl sc_law.nd rfl rfl (by decide) rfl rfl (va_cons (ve_ask hC (LamX.pe_lamcall (k := 8) (T := tabs K) (by rfl) (T.glo "_law_ask" rfl) (F__law_ask T).kp lkT hcT bT sc__law_ask rfl (Or.inl rfl) (ask_gives T (hr.mono (by decide))) (hTB _ (by decide)) rfl hmT huT (hr.mono (by decide)) (LamX.lamS_by (sc := defScope s_law) (by decide +kernel)) rfl (fun _ _ _ _ _ => rfl) (fun A outer s H E f c' hr => ve_lambody2 fun W E1 hC hE => (ve_fld (pe_fldK K (ve_makeS (cl := "Program") hC hE (StX.pe_makeR (T.mkr "Program" rfl) (v_Program T L) (hr.mono (by decide)) (by rfl) (T.glo "Program" rfl) (passes_call (takes_of rfl rfl rfl rfl) (fun _ _ _ _ h => h)) (va_cons (ve_var (pv 5)) va_nil)))))))) (va_cons (ve_if (vt_tru (pt_truth (ve_var (pv 6)) (fun _ => rfl))) (ve_call hC hE (pe_call (v__law_product T) (hr.mono (by decide)) (by rfl) (T.glo "_law_product" rfl) (F__law_product T).kp (B__law_product T) .nil (passes_call (takes_of rfl rfl rfl rfl) (fun _ _ _ _ h => h)) (va_cons (ve_var (pv 5)) va_nil)) (fun _ _ _ => .nil)) (ve_int pe_int)) va_nil)) rfl))
  (vss_cons (vs_set (ps_set (i := 9) sc_law.nd rfl (Or.inl rfl) (ve_if (vt_cmp op_gt d_IB (ve_var (pv 8)) (ve_int pe_int) (nomark _)) (ve_lst (va_cons (ve_str pe_str) (va_cons (ve_str pe_str) (va_cons (ve_var (pv 8)) va_nil)))) (ve_if (vt_tru (pt_truth (ve_var (pv 6)) (fun _ => rfl))) (ve_lst (va_cons (ve_str pe_str) (va_cons (ve_cb (pe_callTy (call_tupLTK K) (by rfl) (T.free "tuple" rfl) boot_tuple (va_cons (ve_var (pv 5)) va_nil)) d_tuple) va_nil))) (ve_lst (va_cons (ve_str pe_str) va_nil))))))
  (vss_one (vs_if (vt_not (vt_val (ve_call hC hE (pe_call (v__law_like T 4) (hr.mono (by decide)) (by rfl) (T.glo "_law_like" rfl) (F__law_like T).kp (B__law_like T) .nil (passes_call (takes_of rfl rfl rfl rfl) (fun _ _ _ _ h => h)) (va_cons (ve_var (pv 7)) (va_cons (ve_var (pv 9)) va_nil))) (fun _ _ _ => .nil)))) (vss_one (vs_ret (ps_ret (ve_bl pe_bl)))) vss_nil)))))))
  (vss_cons (vs_set (ps_set (i := 10) sc_law.nd rfl (Or.inl rfl) (ve_call hC hE (pe_call (v__law_of T) (hr.mono (by decide)) (by rfl) (T.glo "_law_of" rfl) (F__law_of T).kp (B__law_of T) .nil (passes_call (takes_of rfl rfl rfl rfl) (fun _ _ _ _ h => h)) (va_cons (ve_var (pv 1)) (va_cons (ve_lst (va_cons (ve_non pe_non) (va_cons (ve_int pe_int) (va_cons (ve_tup va_nil) (va_cons (ve_str pe_str) (va_cons (ve_tup (va_cons (ve_str pe_str) va_nil)) (va_cons (ve_lst va_nil) (va_cons (ve_tup (va_cons (ve_str pe_str) (va_cons (ve_int pe_int) (va_cons (ve_int pe_int) va_nil)))) (va_cons (ve_tup (va_cons (ve_tup (va_cons (ve_int pe_int) va_nil)) (va_cons (ve_int pe_int) va_nil))) (va_cons (ve_tup (va_cons (ve_non pe_non) (va_cons (ve_int pe_int) (va_cons (ve_int pe_int) va_nil)))) (va_cons (ve_tup (va_cons (ve_str pe_str) (va_cons (ve_non pe_non) va_nil))) va_nil))))))))))) va_nil))) (fun _ _ _ => .nil))))
  (vss_one (vs_if (vt_not (vt_val (ve_call hC hE (pe_call (v__law_judged T L hTB) (hr.mono (by decide)) (by rfl) (T.glo "_law_judged" rfl) (F__law_judged T).kp (B__law_judged T) .nil (passes_call (takes_of rfl rfl rfl rfl) (fun _ _ _ _ h => h)) (va_cons (ve_var (pv 3)) (va_cons (ve_var (pv 10)) va_nil))) (fun _ _ _ => .nil)))) (vss_one (vs_ret (ps_ret (ve_bl pe_bl)))) vss_nil))))))))
  (vss_one (vs_ret (ps_ret (ve_bl pe_bl)))))), ?_⟩
    walk_at "in"
    walk_at "gg"
    refine ⟨a, ns, rfl, ha, fun b sc ms H1 _ _ e1 hb => ?_⟩
    have hT1 := tabs_ex0 e1 hT
    walk_at "gg"
    refine ⟨bagC K b sc ms, [b], H1, List.mem_singleton.mpr rfl, ⟨b, sc, ms, rfl⟩, [], [], _, 0, { nx := fun _ _ => False, rt := fun d _ => d = .bl true }, mid_rel (N := 9) (x := some (.ref a)) hb hT1 (by decide) rfl (List.mem_singleton.mpr rfl), ?_, ?_⟩
    rotate_left
    · exact ⟨fun _ _ _ _ _ _ h => h.elim, fun _ _ _ _ _ _ h => h.elim, fun _ _ _ _ _ _ h => h.elim, fun v H' d n' r hd => by
        subst hd
        cases r.dat
        exact hQ H'⟩
    dsimp only [List.replicate]
    walk_at "vx"
    refine VF.y_loop (fun i τ n' => n' ≤ 1600 * i ∧ ∃ (o2 o3 o4 o5 o6 o7 o8 o9 o10 : Option SV), τ = [none, some (.d .bag), o2, o3, o4, o5, o6, o7, o8, o9, o10]) ⟨by omega, none, none, none, none, none, none, none, none, none, rfl⟩ ?_ ?_
    · rintro i d τ n' hi ⟨hn', o2, o3, o4, o5, o6, o7, o8, o9, o10, rfl⟩
      have hi3 : i < 3 := by
        have := (List.getElem?_eq_some_iff.mp hi).1
        rw [rngD_len] at this
        exact this
      walk_at "vx"
      refine y_szs (by omega) fun xs n1 hs hn1 => ?_
      have hz : SqD (.tup (VF.iD xs)) (VF.iD xs) := .inr rfl
      walk_at "vx"
      refine y_deeds hz hs (by omega) fun n2 hn2 => ?_
      walk_at "vx"
      refine y_deeds hz hs (by omega) fun n3 hn3 => ?_
      walk_at "vx"
      refine y_signs hz hs (by omega) fun n4 hn4 => ?_
      walk_at "vx"
      refine y_repT (ys := [.int 1, .int 1, .int 1, .int 1, .int 1, .int 1, .int 1]) (by simp) (by decide) (by decide) (by simp) rfl ?_
      walk_at "vx"
      refine y_repT (ys := [.int 1, .int 1, .int 1, .int 1, .int 1, .int 1]) (by simp) (by decide) (by decide) (by simp) rfl ?_
      walk_at "vx"
      refine y_of (by omega) (by simp) (by simp) fun j x hx => ?_
      have px : Pz 3 x := by
        have hm := List.mem_of_getElem? hx
        simp only [List.mem_cons, List.not_mem_nil, or_false] at hm
        rcases hm with rfl | rfl | rfl | rfl | rfl | rfl | rfl | rfl | rfl | rfl | rfl | rfl | rfl | rfl | rfl
        all_goals first
          | exact .non
          | exact .int
          | exact .str (by decide +kernel)
          | exact .tup pz_e (by decide)
          | exact .lst pz_e (by decide)
          | exact .lst (pz_one .int) (by decide)
          | exact .tup (pz_one .int) (by decide)
          | exact .tup (pz_one .bl) (by decide)
          | exact .tup (pz_c .int (pz_one .int)) (by simp)
          | exact .tup (pz_c .int (pz_one (.str (by decide +kernel)))) (by decide)
          | exact .tup (pz_one (.lst (pz_one .int) (by decide))) (by decide)
          | exact .tup (pz_c .int (pz_c .int (pz_c .int (pz_c .int (pz_c .int (pz_one .int)))))) (by decide)
          | exact .tup (pz_c .int (pz_c .int (pz_c .int (pz_c .int (pz_c .int (pz_c .int (pz_one .int))))))) (by decide)
      have h6 := hs.1.2
      walk_at "vx"
      refine y_tb hz ((pz_sq hz hs).mono (by decide)) (by rw [List.length_map]; omega) (by omega) fun y n5 py hn5 => ?_
      walk_at "vx"
      have pxs : ∀ v ∈ ([x, y, .lst (VF.iD xs)] : List VF.DV), Pz 3 v := pz_c px (pz_c py (pz_one ((pz_sq (.inl rfl) hs).mono (by decide))))
      refine VF.y_loop (fun i τ n' => n' = n5 ∧ ∃ (o5 o6 o7 o8 o9 : Option SV), τ = [none, some (.d .bag), some (.d d), some (.d (.tup (VF.iD xs))), some (.d (.lst [.non, .int 0, .str "22", .tup [], .lst [], .lst [.int 2], .tup [.bl true], .tup [.int 1, .int 1, .int 1, .int 1, .int 1, .int 1, .int 1], .tup [.int 1, .int 1, .int 1, .int 1, .int 1, .int 1], .tup [.int 65], .tup [.int 64], .tup [.int 2, .int (0 - 1)], .lst [.int 0], .tup [.int 2, .str "2"], .tup [.lst [.int 2]]])), o5, o6, o7, o8, o9, o10]) ⟨rfl, _, _, _, _, _, rfl⟩ ?_ ?_
      · rintro j v τ n' hv ⟨rfl, o5, o6, o7, o8, o9, rfl⟩
        have pv := pxs v (List.mem_of_getElem? hv)
        walk_at "vx"
        refine y_sizes (pv.1.mono (by decide)) ?_
        walk_at "vx"
        refine y_sizes (pv.1.mono (by decide)) ?_
        walk_at "vx"
        refine y_like .bl ?_
        walk_at "vx"
        cases es : sizesB v with
        | false =>
          refine y_ask2 (r := .sizes) (fun F E1 ho => ?_) ?_
          · dsimp only [VF.hideO, List.map]
            walk_at "vx"
            refine y_makeS ?_
            walk_at "vx"
            refine ⟨v, [], rfl, by simp, v, [], rfl, pv.1.mono (by decide), by simp, nofun, ?_⟩
            refine ⟨fun _ => ho, fun ys hy h1 h2 => ?_⟩
            rw [sizesB_of hy h1 h2] at es
            cases es
          · dsimp only [aresV]
            walk_at "vx"
            refine y_like (k := 4) (.lst (pz_one (.str (by decide +kernel))) (by simp)) ?_
            walk_at "vx"
            exact ⟨rfl, _, _, _, _, _, rfl⟩
        | true =>
          obtain ⟨ys, hy, hsz, hl⟩ := sizes_to es
          by_cases c : 64 < prod ys
          · refine y_ask2 (r := .many (.str "tracks") (.int (prod ys))) (fun F E1 ho => ?_) ?_
            · dsimp only [VF.hideO, List.map]
              walk_at "vx"
              refine y_makeS ?_
              walk_at "vx"
              refine ⟨v, [], rfl, by simp, v, [], rfl, pv.1.mono (by decide), by simp, nofun, ?_⟩
              refine ⟨fun e => (by rw [es] at e; exact Bool.noConfusion e), fun zs hz2 _ _ => ?_⟩
              cases sq_inj hy hz2
              exact ⟨fun _ => ho, fun h => absurd h (by omega)⟩
            · dsimp only [aresV]
              walk_at "vx"
              refine y_count hy hsz.1 hsz.2 ?_
              walk_at "vx"
              rw [decide_eq_true c]
              walk_at "vx"
              refine y_like (k := 4) (.lst (pz_c (.str (by decide +kernel)) (pz_c (.str (by decide +kernel)) (pz_one .int))) (by simp)) ?_
              walk_at "vx"
              exact ⟨rfl, _, _, _, _, _, rfl⟩
          · refine y_ask2 (r := .told (.tup (VF.iD ys))) (fun F E1 ho => ?_) ?_
            · have a1 : AtOk K "Program" "sizes" := ⟨T.cls "Program" rfl, T.noat "Program" "sizes" rfl⟩
              dsimp only [VF.hideO, List.map]
              walk_at "vx"
              refine y_makeS ?_
              walk_at "vx"
              refine ⟨v, [], rfl, by simp, v, [], rfl, pv.1.mono (by decide), by simp, nofun, ?_⟩
              refine ⟨fun e => (by rw [es] at e; exact Bool.noConfusion e), fun zs hz2 _ _ => ?_⟩
              cases sq_inj hy hz2
              refine ⟨fun h => absurd h c, fun _ => ⟨fun _ a b c => ?_, fun i r hi => by cases hi⟩⟩
              exact ⟨_, _, _, _, rfl, a1, rfl, ho⟩
            · dsimp only [aresV]
              walk_at "vx"
              refine y_count hy hsz.1 hsz.2 ?_
              walk_at "vx"
              rw [decide_eq_false c]
              walk_at "vx"
              refine y_tupS (sq_of hy) ?_
              walk_at "vx"
              refine y_like (k := 4) (.lst (pz_c (.str (by decide +kernel)) (pz_one ((Pz.tup pz_iD (by rw [List.length_map]; have := hsz.2; omega)).mono (by decide)))) (by simp)) ?_
              walk_at "vx"
              exact ⟨rfl, _, _, _, _, _, rfl⟩
      · rintro τ n' ⟨rfl, o5, o6, o7, o8, o9, rfl⟩
        walk_at "vx"
        refine y_of (by omega) (by simp) (by simp) fun j u hu => ?_
        have pu : Pz 4 u := by
          have hm := List.mem_of_getElem? hu
          simp only [List.mem_cons, List.not_mem_nil, or_false] at hm
          rcases hm with rfl | rfl | rfl | rfl | rfl | rfl | rfl | rfl | rfl | rfl
          all_goals first
            | exact .non
            | exact .int
            | exact .str (by decide +kernel)
            | exact .tup pz_e (by decide)
            | exact .lst pz_e (by decide)
            | exact .tup (pz_one (.str (by decide +kernel))) (by decide)
            | exact .tup (pz_c (.str (by decide +kernel)) (pz_c .int (pz_one .int))) (by decide)
            | exact .tup (pz_c (.tup (pz_one .int) (by decide)) (pz_one .int)) (by decide)
            | exact .tup (pz_c .non (pz_c .int (pz_one .int))) (by decide)
            | exact .tup (pz_c (.str (by decide +kernel)) (pz_one .non)) (by decide)
        walk_at "vx"
        refine y_judged hz hs pu ?_
        walk_at "vx"
        exact ⟨by omega, _, _, _, _, _, _, _, _, _, rfl⟩
    · rintro τ n' ⟨hn', o2, o3, o4, o5, o6, o7, o8, o9, o10, rfl⟩
      walk_at "vx"
      trivial
end
end BF
/-! ## the law at the head -/
namespace BF
open PySem PySem.Spec PyProof.Rows L2
theorem law_at {w : World} {K : PySem.W.Frag} {h : Heap} {mg : Str → Option Value} (l : PySem.W.OpenLaw) (X : K.In h) (G : h.Ns mainGlobals mg) (c : He.SaysX fa fn tts tf more w h K) : LamX.LawAtS l w K (L2.CX l.prog w) 15 63 "_law_script" mg (He.ga K "law") h := by
  have T := tx_of X G c
  have L : LimT K w := He.SaysT.tab (t := (fun K => He.ga K "LIMITS", tk_LIMITS)) c.t 0 rfl
  have hb := (F_law T).bindsA (ps := ["_law_script"]) fun _ _ _ _ _ _ us hl => match us, hl with | [_], _ => rfl
  refine ⟨fdOf K ("law", none), tf.map (He.cT K), spLaw K, fun p hp => ?_, fun p hp => ?_, fun p hp => ?_, fun s u => hb s [u] rfl, fun H a ns _ _ hH hS => ⟨a, ns, rfl, rfl, hS, fun p hp => ?_, fun _ => rfl⟩, fun base _ _ hTB => ok_law T L fun p hp => hTB _ (List.mem_map.mpr ⟨p, hp, rfl⟩)⟩
  · obtain ⟨q, hq, rfl⟩ := List.mem_map.mp hp
    exact c.empty q hq
  · obtain ⟨q, hq, rfl⟩ := List.mem_map.mp hp
    exact c.out q hq
  · obtain ⟨q, hq, rfl⟩ := List.mem_map.mp hp
    exact PySem.W.codeHd_of_K X (c.hd q hq)
  · have hp2 : p ∈ tf.map fun p => ((He.cT K p).2, (p.1 ++ ".<locals>." ++ "<lambda>" : Str)) := hp
    obtain ⟨q, hq, rfl⟩ := List.mem_map.mp hp2
    exact LamX.TabS.nil (hH _ (List.mem_map.mpr ⟨q, hq, rfl⟩))
end BF
/-! ## the end -/
theorem PySem.Challenge.cw_borderflow_k13_deeds_judged_holds : PySem.Challenge.rw_borderflow_k13_deeds_judged.Holds := by
  exact BF.end_top fun l X G c => BF.law_at l X G c
