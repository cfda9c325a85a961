import PyProof.Rows.All
import Wide.All
import OpenK.AllK
import Wide.FinOn
import KE.KStateDown
import HandS.ForExc
import HandS.ForMost
import HandS.Defaults
import HandS.IsInst
import HandS.Wide
import HandS.Gcd
import HandS.Walk
import HandS.Zip
import HandS.OwnEq
import HandS.ExcInit
import HandS.ExcField
import HandS.TryMany
import HandS.Flow
import HandS.Lambda
import HandS.EndBits
import HandS.EndTab
import HandS.Nested
import HandS.CallRecv
import HandS.Codes
import HandS.TupAny
import HandS.TupMul
import HandS.More
import HandS.Rev
import HandS.Deep
import HandS.ExcIs
import HandS.Head0
import HandS.Head1
import HandS.Head2
import HandS.Head3
import HandS.HeadEnd
import HandS.HeadHook1
import HandS.HeadHook2
import HandS.HeadHook3
import HandS.HeadHook4
import HandS.HeadWalk
import HandS.Strs
import HandS.SetFor
import HandS.TupSets
import HandS.SortInts
import HandS.FStr
import HandS.Star
import KE.GoesMore
import HandS.Conv
import HandS.Style
import PyProof.P3In
import HandS.GenList
import HandS.GenYield
import HandS.GenCall
import KE.KCallOwn
import KE.KOpsOwn
import HandS.MakeKw
import HandS.MakeKwOnly
import PyProof.Rows.Digits
import PyProof.Rows.StrOr
import PyProof.StrHeap
import HandS.FStrTup
import PyProof.ReprLen
import PySem.Challenge.RW_borderflow_k01_ratios_and_words
set_option Elab.async false
set_option linter.all false
set_option maxRecDepth 100000
set_option maxHeartbeats 4000000
/-! ## the law is well said (first: later the head has taken the memory) -/
section
open PySem PySem.W PySem.Calls PyProof.Rows
theorem BF.law_top (h : (OpenLaw.row PySem.Challenge.rw_borderflow_k01_ratios_and_words).wellSaid = true → (OpenLaw.row PySem.Challenge.rw_borderflow_k01_ratios_and_words).Holds) : PySem.Challenge.rw_borderflow_k01_ratios_and_words.Holds := by
  w_on; o_law
  exact h ‹_›
end
/-! ## Base layer: heaps that keep what they track, data, the stepper's lemmas -/
namespace BF
open PySem PySem.Spec PyProof.Rows L2

/-- H' keeps what H tracks, but at the addresses of M -/
def Ex (M : List Addr) (H H' : Hp) : Prop := ∀ x o, x ∉ M → H x = some o → H' x = some o
theorem Ex.refl {M : List Addr} (H : Hp) : Ex M H H := fun _ _ _ h => h
theorem Ex.sub {M M' : List Addr} {H H' : Hp} (h : Ex M H H') (s : ∀ x ∈ M, x ∈ M') : Ex M' H H' := fun x o n e => h x o (fun z => n (s x z)) e
theorem Ex.tr {M : List Addr} {H H1 H2 : Hp} (a : Ex M H H1) (b : Ex M H1 H2) : Ex M H H2 := fun x o n e => b x o n (a x o n e)
/-- behind a further step that keeps all but some of M -/
theorem Ex.st {M M' : List Addr} {H H1 H2 : Hp} (b : Ex M' H1 H2) (s : ∀ x ∈ M', x ∈ M) (a : Ex M H H1) : Ex M H H2 := a.tr (b.sub s)
theorem Ex.new {M : List Addr} {H : Hp} {p : Addr} {o : HO} (h : H p = none) : Ex M H (upd H p o) := fun a u _ e => by
  rw [upd_ne (ne_of_none e h)]
  exact e
/-- an object that H does not know may change -/
theorem Ex.mut {M : List Addr} {H H' : Hp} {p : Addr} {o : HO} (h : H p = none) (e : Ex M H H') : Ex M H (upd H' p o) := fun a u n ha => by
  rw [upd_ne (ne_of_none ha h)]
  exact e a u n ha
theorem Ex.wr {M : List Addr} {H H' : Hp} {p : Addr} {o : HO} (h : p ∈ M) (e : Ex M H H') : Ex M H (upd H' p o) := fun a u n ha => by
  have : a ≠ p := fun z => n (z ▸ h)
  rw [upd_ne this]
  exact e a u n ha
theorem Ex.free {M : List Addr} {H H' : Hp} {p : Addr} (e : Ex M H H') (hp : p ∉ M) (h : H' p = none) : H p = none := by
  cases q : H p with
  | none => rfl
  | some o =>
    rw [e p o hp q] at h
    cases h
/-- the addresses of M are taken -/
def Al (M : List Addr) (H : Hp) : Prop := ∀ x ∈ M, ∃ o, H x = some o
theorem Al.nil {H : Hp} : Al [] H := fun _ h => nomatch h
theorem Al.cons {M : List Addr} {H : Hp} {x : Addr} {o : HO} (h : H x = some o) (r : Al M H) : Al (x :: M) H := fun y hy => by
  rcases List.mem_cons.mp hy with e | hy
  · exact ⟨o, by rw [e]; exact h⟩
  · exact r y hy
theorem Al.out {M : List Addr} {H : Hp} {p : Addr} (a : Al M H) (h : H p = none) : p ∉ M := fun z => by
  obtain ⟨o, e⟩ := a p z
  rw [e] at h
  cases h
theorem Al.upd {M : List Addr} {H : Hp} {p : Addr} {o : HO} (a : Al M H) : Al M (upd H p o) := fun x hx => by
  by_cases e : x = p
  · exact ⟨o, by rw [e]; exact upd_same⟩
  · obtain ⟨u, hu⟩ := a x hx
    exact ⟨u, by rw [upd_ne e]; exact hu⟩

theorem rd_ex {M : List Addr} {H H' : Hp} {a : Addr} {u : HO} (e : Ex M H H') (n : a ∉ M) (h : Rd H a u) : Rd H' a u := by
  rcases h with h | ⟨o, h⟩
  · exact Or.inl (e a _ n h)
  · exact Or.inr ⟨o, e a _ n h⟩
theorem sql_ex {M : List Addr} {K : PySem.W.Frag} {H H' : Hp} {a : Addr} {xs : List V} (e : Ex M H H') (n : a ∉ M) (h : SqL K H a xs) : SqL K H' a xs := by
  rcases h with h | h
  · exact Or.inl (rd_ex e n h)
  · exact Or.inr h
theorem sqt_ex {M : List Addr} {K : PySem.W.Frag} {H H' : Hp} {a : Addr} {xs : List V} (e : Ex M H H') (n : a ∉ M) (h : SqT K H a xs) : SqT K H' a xs := by
  rcases h with h | h
  · exact Or.inl (rd_ex e n h)
  · exact Or.inr h
theorem sql_of {K : PySem.W.Frag} {H : Hp} {a : Addr} {xs : List V} (h : H a = some (.lst xs)) : SqL K H a xs := Or.inl (Or.inl h)
theorem sqt_of {K : PySem.W.Frag} {H : Hp} {a : Addr} {xs : List V} (h : H a = some (.tup xs)) : SqT K H a xs := Or.inl (Or.inl h)
theorem at_ex {M : List Addr} {H H' : Hp} {a : Addr} {u : HO} (e : Ex M H H') (n : a ∉ M) (h : H a = some u) : H' a = some u := e a u n h

theorem sz_of {n : Nat} (h : n ≤ 1000000) : n ≤ sizeLine := Nat.le_trans h (by decide)
theorem sz_lt {n : Nat} (h : n < 1000000) : n < sizeLine := Nat.lt_of_lt_of_le h (by decide)

/-! ### the stepper's lemmas: one for each head -/
section
variable {K : PySem.W.Frag} {σ : L2.St} {H : Hp} {ta tb tc te : TE} {t u : TT} {x y z v : V} {r r' : R2} {Q : VK} {QB : Bool → Hp → Prop} {QA : List V → Hp → Prop} {D : Ends} {tu tw : TS} {g : TG}
theorem x_var {i : Nat} (h : σ[i]? = some (some v)) (k : Q v H) : tVar i σ H Q := ⟨v, h, k⟩
theorem x_c (k : Q v H) : tC v σ H Q := k
theorem x_op (k : ta σ H fun x H1 => tb σ H1 fun y H2 => r x y H2 Q) : tOp r ta tb σ H Q := k
theorem x_un {r : V → Hp → VK → Prop} (k : ta σ H fun x H1 => r x H1 Q) : tUn r ta σ H Q := k
theorem x_test (k : ta σ H fun x H' => ∃ b, x = .bl b ∧ QB b H') : tTest ta σ H QB := k
theorem x_B (k : ta σ H fun x H' => ∃ b, x = .bl b ∧ QB b H') : tB ta σ H QB := k
theorem x_bl {b : Bool} (k : QB b H) : ∃ c, V.bl b = .bl c ∧ QB c H := ⟨b, rfl, k⟩
theorem x_and (k : t σ H fun c H1 => if c = true then u σ H1 QB else QB false H1) : tAnd t u σ H QB := k
theorem x_or (k : t σ H fun c H1 => if c = true then QB true H1 else u σ H1 QB) : tOr t u σ H QB := k
theorem x_not (k : t σ H fun c H1 => QB (!c) H1) : tNot t σ H QB := k
theorem x_andV (k : ta σ H fun x H1 => ∃ c, x = .bl c ∧ if c = true then tb σ H1 Q else Q (.bl false) H1) : tAndV ta tb σ H Q := k
theorem x_orV (k : ta σ H fun x H1 => ∃ c, x = .bl c ∧ if c = true then Q (.bl true) H1 else tb σ H1 Q) : tOrV ta tb σ H Q := k
theorem x_notV (k : ta σ H fun x H1 => ∃ c, x = .bl c ∧ Q (.bl (!c)) H1) : tNotV ta σ H Q := k
theorem x_if (k : t σ H fun c H1 => if c = true then ta σ H1 Q else tb σ H1 Q) : tIf t ta tb σ H Q := k
theorem x_blV {b : Bool} {P : Bool → Prop} (k : P b) : ∃ c, V.bl b = .bl c ∧ P c := ⟨b, rfl, k⟩
theorem x_nil (k : QA [] H) : tNil σ H QA := k
theorem x_cons {tr : TA} (k : te σ H fun x H1 => tr σ H1 fun xs H2 => QA (x :: xs) H2) : tCons te tr σ H QA := k
theorem x_cb {r : List V → Hp → VK → Prop} {tr : TA} (k : tr σ H fun vs H1 => r vs H1 Q) : tCB r tr σ H Q := k
theorem x_call {sp : Sp} {dvs : List V} {E : XK} {tr : TA} (k : tr σ H fun vs H1 => sp (vs ++ dvs) H1 Q E) : tCall sp dvs E tr σ H Q := k
theorem x_lst {tr : TA} (k : tr σ H fun xs H1 => xs.length ≤ sizeLine ∧ ∀ p, H1 p = none → Q (.ref p) (upd H1 p (.lst xs))) : tLst tr σ H Q := k
theorem x_tup {tr : TA} (k : tr σ H fun xs H1 => xs.length ≤ sizeLine ∧ ∀ p, H1 p = none → Q (.ref p) (upd H1 p (.tup xs))) : tTup tr σ H Q := k
theorem x_new {xs : List V} {f : List V → HO} (hl : xs.length ≤ 1000000) (k : ∀ p H2, H p = none → Ex [] H H2 → H2 p = some (f xs) → Q (.ref p) H2) : xs.length ≤ sizeLine ∧ ∀ p, H p = none → Q (.ref p) (upd H p (f xs)) := ⟨sz_of hl, fun p hp => k p _ hp (Ex.new hp) upd_same⟩
theorem x_newL {xs : List V} (hl : xs.length ≤ 1000000) (k : ∀ p H2, H p = none → Ex [] H H2 → H2 p = some (.lst xs) → Q (.ref p) H2) : xs.length ≤ sizeLine ∧ ∀ p, H p = none → Q (.ref p) (upd H p (.lst xs)) := x_new (f := .lst) hl k
theorem x_newT {xs : List V} (hl : xs.length ≤ 1000000) (k : ∀ p H2, H p = none → Ex [] H H2 → H2 p = some (.tup xs) → Q (.ref p) H2) : xs.length ≤ sizeLine ∧ ∀ p, H p = none → Q (.ref p) (upd H p (.tup xs)) := x_new (f := .tup) hl k
theorem x_new1 {o : HO} (k : ∀ p H2, H p = none → Ex [] H H2 → H2 p = some o → Q (.ref p) H2) : ∀ p, H p = none → Q (.ref p) (upd H p o) := fun p hp => k p _ hp (Ex.new hp) upd_same
theorem x_sl {r : V → Option Int → Option Int → Hp → VK → Prop} {tl th : TO} (k : te σ H fun x H1 => tl σ H1 fun l H2 => th σ H2 fun u H3 => r x l u H3 Q) : tSl r te tl th σ H Q := k
theorem x_part {QO : Option Int → Hp → Prop} (k : te σ H fun x H1 => ∃ i, x = .int i ∧ QO (some i) H1) : tPart te σ H QO := k
theorem x_nopart {QO : Option Int → Hp → Prop} (k : QO none H) : tNoPart σ H QO := k
theorem x_int {i : Int} {P : Int → Prop} (k : P i) : ∃ j, V.int i = .int j ∧ P j := ⟨i, rfl, k⟩
theorem x_bm {T : String} {r : V → List V → Hp → VK → Prop} {to : TE} {tr : TA} (k : to σ H fun x H1 => tyV K T x H1 ∧ tr σ H1 fun xs H2 => r x xs H2 Q) : tBM K T r to tr σ H Q := k
theorem x_bm0 {T : String} {r : V → List V → Hp → VK → Prop} {to : TE} (k : to σ H fun x H1 => tyV K T x H1 ∧ r x [] H1 Q) : tBM0 K T r to σ H Q := k
/-! operations -/
theorem x_I0 {f : Int → Int → V} {i j : Int} (k : Q (f i j) H) : rI0 f (.int i) (.int j) H Q := ⟨i, j, rfl, rfl, k⟩
theorem x_I {C : Int → Int → Prop} {f : Int → Int → V} {i j : Int} (h : C i j) (k : Q (f i j) H) : rI C f (.int i) (.int j) H Q := ⟨i, j, rfl, rfl, h, k⟩
theorem x_U {f : Int → V} {i : Int} (k : Q (f i) H) : rU f (.int i) H Q := ⟨i, rfl, k⟩
theorem x_eq (h : scal x y = true) (k : Q (.bl (decide (x = y))) H) : rEq x y H Q := ⟨h, k⟩
theorem x_ne (h : scal x y = true) (k : Q (.bl (!decide (x = y))) H) : rNe x y H Q := ⟨h, k⟩
theorem x_eqI {i j : Int} (k : Q (.bl (decide (i = j))) H) : rEq (.int i) (.int j) H Q := ⟨rfl, by
  have e : decide (V.int i = V.int j) = decide (i = j) := decide_eq_decide.mpr ⟨fun h => V.int.inj h, fun h => by rw [h]⟩
  rw [e]
  exact k⟩
theorem x_neI {i j : Int} (k : Q (.bl (!decide (i = j))) H) : rNe (.int i) (.int j) H Q := ⟨rfl, by
  have e : decide (V.int i = V.int j) = decide (i = j) := decide_eq_decide.mpr ⟨fun h => V.int.inj h, fun h => by rw [h]⟩
  rw [e]
  exact k⟩
theorem x_eqB {i j : Bool} (k : Q (.bl (i == j)) H) : rEq (.bl i) (.bl j) H Q := ⟨rfl, by
  have e : decide (V.bl i = V.bl j) = (i == j) := by cases i <;> cases j <;> rfl
  rw [e]
  exact k⟩
theorem x_neB {i j : Bool} (k : Q (.bl (i != j)) H) : rNe (.bl i) (.bl j) H Q := ⟨rfl, by
  have e : (!decide (V.bl i = V.bl j)) = (i != j) := by cases i <;> cases j <;> rfl
  rw [e]
  exact k⟩
theorem x_eqS {i j : Str} (k : Q (.bl (decide (i = j))) H) : rEq (.str i) (.str j) H Q := ⟨rfl, by
  have e : decide (V.str i = V.str j) = decide (i = j) := decide_eq_decide.mpr ⟨fun h => V.str.inj h, fun h => by rw [h]⟩
  rw [e]
  exact k⟩
theorem x_neS {i j : Str} (k : Q (.bl (!decide (i = j))) H) : rNe (.str i) (.str j) H Q := ⟨rfl, by
  have e : decide (V.str i = V.str j) = decide (i = j) := decide_eq_decide.mpr ⟨fun h => V.str.inj h, fun h => by rw [h]⟩
  rw [e]
  exact k⟩
/-- list or tuple at an index -/
def rIxLT (K : PySem.W.Frag) : R2 := fun x y H Q => rIxL K x y H Q ∨ rIxT K x y H Q
theorem ix_LT {X : Cx} : IxR X (rIxLT X.K) := ix_list.or ix_tup
theorem x_ixL {p : Addr} {xs : List V} {i : Int} (h : SqL K H p xs) (ha : atI xs i = some v) (k : Q v H) : rIxLT K (.ref p) (.int i) H Q := .inl ⟨p, xs, i, v, rfl, rfl, h, ha, k⟩
theorem x_ixT {p : Addr} {xs : List V} {i : Int} (h : SqT K H p xs) (ha : atI xs i = some v) (k : Q v H) : rIxLT K (.ref p) (.int i) H Q := .inr ⟨p, xs, i, v, rfl, rfl, h, ha, k⟩
def rLenLT (K : PySem.W.Frag) : List V → Hp → VK → Prop := fun xs H Q => ∃ p ys, xs = [.ref p] ∧ (SqL K H p ys ∨ SqT K H p ys) ∧ Q (.int ys.length) H
theorem call_lenLT {X : Cx} : CallR X (.builtin "len") (rLenLT X.K) := call_len_seq
theorem x_lenL {p : Addr} {xs : List V} (h : SqL K H p xs) (k : Q (.int (xs.length : Int)) H) : rLenLT K [.ref p] H Q := ⟨p, xs, rfl, .inl h, k⟩
theorem x_lenT {p : Addr} {xs : List V} (h : SqT K H p xs) (k : Q (.int (xs.length : Int)) H) : rLenLT K [.ref p] H Q := ⟨p, xs, rfl, .inr h, k⟩
def rListLT (K : PySem.W.Frag) : List V → Hp → VK → Prop := fun xs H Q => ∃ p ys, xs = [.ref p] ∧ (SqL K H p ys ∨ SqT K H p ys) ∧ ∀ l, H l = none → Q (.ref l) (upd H l (.lst ys))
theorem call_listLT {X : Cx} : CallR X (.type "list") (rListLT X.K) := call_list_of
theorem x_listL {p : Addr} {xs : List V} (h : SqL K H p xs) (k : ∀ l H2, H l = none → Ex [] H H2 → H2 l = some (.lst xs) → Q (.ref l) H2) : rListLT K [.ref p] H Q := ⟨p, xs, rfl, .inl h, x_new1 k⟩
theorem x_listT {p : Addr} {xs : List V} (h : SqT K H p xs) (k : ∀ l H2, H l = none → Ex [] H H2 → H2 l = some (.lst xs) → Q (.ref l) H2) : rListLT K [.ref p] H Q := ⟨p, xs, rfl, .inr h, x_new1 k⟩
def rTupLT (K : PySem.W.Frag) : List V → Hp → VK → Prop := fun xs H Q => ∃ p ys, xs = [.ref p] ∧ ((SqL K H p ys ∧ ∀ l, H l = none → Q (.ref l) (upd H l (.tup ys))) ∨ (SqT K H p ys ∧ Q (.ref p) H))
theorem call_tupLT {X : Cx} : CallR X (.type "tuple") (rTupLT X.K) := call_tuple_of
theorem x_tupL {p : Addr} {xs : List V} (h : SqL K H p xs) (k : ∀ l H2, H l = none → Ex [] H H2 → H2 l = some (.tup xs) → Q (.ref l) H2) : rTupLT K [.ref p] H Q := ⟨p, xs, rfl, .inl ⟨h, x_new1 k⟩⟩
theorem x_tupT {p : Addr} {xs : List V} (h : SqT K H p xs) (k : Q (.ref p) H) : rTupLT K [.ref p] H Q := ⟨p, xs, rfl, .inr ⟨h, k⟩⟩
theorem x_slL {a : Addr} {xs : List V} {lo hi : Option Int} (h : SqL K H a xs) (k : ∀ p H2, H p = none → Ex [] H H2 → H2 p = some (.lst (cutV xs lo hi)) → Q (.ref p) H2) : rSlL K (.ref a) lo hi H Q := ⟨a, xs, rfl, h, x_new1 k⟩
def rInt1 : List V → Hp → VK → Prop := fun xs H Q => (∃ i, xs = [.int i] ∧ Q (.int i) H) ∨ ∃ k, xs = [.bl k] ∧ Q (.int (if k then 1 else 0)) H
theorem call_intX {X : Cx} : CallR X (.type "int") rInt1 := call_int1
theorem x_intc {i : Int} (k : Q (.int i) H) : rInt1 [.int i] H Q := .inl ⟨i, rfl, k⟩
def rAbs : List V → Hp → VK → Prop := fun xs H Q => ∃ i, xs = [.int i] ∧ Q (.int (if i < 0 then -i else i)) H
theorem call_absX {X : Cx} : CallR X (.builtin "abs") rAbs := call_abs
theorem x_abs {i : Int} (k : Q (.int (i.natAbs : Int)) H) : rAbs [.int i] H Q := ⟨i, rfl, by
  have e : (if i < 0 then -i else i) = (i.natAbs : Int) := by split <;> omega
  rw [e]
  exact k⟩
theorem x_isN (k : Q (.bl (decide (x = .non))) H) : (fun x y H Q => y = .non ∧ Q (.bl (decide (x = .non))) H : R2) x .non H Q := ⟨rfl, k⟩
def rIsN : R2 := fun x y H Q => y = .non ∧ Q (.bl (decide (x = .non))) H
def rNotN : R2 := fun x y H Q => y = .non ∧ Q (.bl (!decide (x = .non))) H
theorem op_isNX {X : Cx} : OpR X (compareOp .Is) rIsN := op_isN
theorem op_notNX {X : Cx} : OpR X (compareOp .IsNot) rNotN := op_notN
theorem x_isNo (k : Q (.bl (decide (x = .non))) H) : rIsN x .non H Q := ⟨rfl, k⟩
theorem x_notNo (k : Q (.bl (!decide (x = .non))) H) : rNotN x .non H Q := ⟨rfl, k⟩
/-- + of ints, lists, tuples, texts -/
def rAddU (K : PySem.W.Frag) : R2 := fun x y H Q => rI0 (fun i j => .int (i + j)) x y H Q ∨ rCat x y H Q ∨ rCatT K x y H Q ∨ ∃ i j, x = .str i ∧ y = .str j ∧ i.length + j.length ≤ sizeLine ∧ Q (.str (i ++ j)) H
theorem op_addU {X : Cx} : OpR X (binaryOp .Add) (rAddU X.K) := op_add.or (op_cat.or (op_catT.or op_add_str))
theorem x_addI {i j : Int} (k : Q (.int (i + j)) H) : rAddU K (.int i) (.int j) H Q := .inl ⟨i, j, rfl, rfl, k⟩
theorem x_addL {l b : Addr} {xs zs : List V} (h1 : H l = some (.lst xs)) (h2 : H b = some (.lst zs)) (hz : xs.length + zs.length ≤ 1000000) (k : ∀ p H2, H p = none → Ex [] H H2 → H2 p = some (.lst (xs ++ zs)) → Q (.ref p) H2) : rAddU K (.ref l) (.ref b) H Q :=
  .inr (.inl ⟨l, b, xs, zs, rfl, rfl, h1, h2, sz_of hz, x_new1 k⟩)
theorem x_neg {i : Int} (k : Q (.int (-i)) H) : rU (fun i => .int (-i)) (.int i) H Q := ⟨i, rfl, k⟩
/-! statements -/
theorem x_seq (k : tu { D with nx := tw D } σ H) : tSeq tu tw D σ H := k
theorem x_next (k : D.nx σ H) : tNext D σ H := k
theorem x_asg (k : te σ H fun x H1 => g x σ H1 D.nx) : tAsg te g D σ H := k
theorem x_gname {i : Nat} {σ' : L2.St} {QS : L2.St → Hp → Prop} (e : σ.set i (some v) = σ') (k : QS σ' H) : gName i v σ H QS := by
  unfold gName
  rw [e]
  exact k
theorem x_gsub {to ti : TE} {tt : TSet} {QS : L2.St → Hp → Prop} (k : to σ H fun o H1 => ti σ H1 fun i H2 => tt o i v H2 fun H3 => QS σ H3) : gSub to ti tt v σ H QS := k
theorem x_setL {p : Addr} {xs : List V} {i : Int} {j : Nat} {QH : Hp → Prop} (h : H p = some (.lst xs)) (hi : ixN xs.length i = some j) (k : QH (upd H p (.lst (xs.set j v)))) : rSetL (.ref p) (.int i) v H QH := ⟨p, xs, i, j, rfl, rfl, h, hi, k⟩
theorem x_setL2 {p : Addr} {xs xs' : List V} {i : Int} {j : Nat} {QH : Hp → Prop} (h : H p = some (.lst xs)) (hi : ixN xs.length i = some j) (hx : xs.set j v = xs') (k : ∀ H2, Ex [p] H H2 → H2 p = some (.lst xs') → QH H2) : rSetL (.ref p) (.int i) v H QH := ⟨p, xs, i, j, rfl, rfl, h, hi, k _ (Ex.wr (List.mem_cons_self ..) (Ex.refl H)) (by rw [upd_same, hx])⟩
theorem x_app2 {l : Addr} {xs : List V} (h : H l = some (.lst xs)) (hz : xs.length < 1000000) (k : ∀ H2, Ex [l] H H2 → H2 l = some (.lst (xs ++ [y])) → Q .non H2) : rAppend (.ref l) [y] H Q := ⟨l, xs, y, rfl, rfl, h, sz_lt hz, k _ (Ex.wr (List.mem_cons_self ..) (Ex.refl H)) upd_same⟩
theorem x_ret (k : te σ H D.rt) : tRet te D σ H := k
theorem x_retN (k : D.rt .non H) : tRetN D σ H := k
theorem x_drop (k : te σ H fun _ H1 => D.nx σ H1) : tDrop te D σ H := k
theorem x_ifS (k : t σ H fun b H1 => if b = true then tu D σ H1 else tw D σ H1) : tIfS t tu tw D σ H := k
theorem x_brk (k : D.bk σ H) : tBreak D σ H := k
theorem x_cnt (k : D.ct σ H) : tCont D σ H := k
theorem x_par {i j : Nat} {ta : TA} (k : ta σ H fun vs H1 => ∃ v w, vs = [v, w] ∧ D.nx ((σ.set i (some v)).set j (some w)) H1) : tPar i j ta D σ H := k
theorem x_par2 {P : V → V → Prop} (k : P x y) : ∃ v w, ([x, y] : List V) = [v, w] ∧ P v w := ⟨x, y, rfl, k⟩
theorem x_gtup {n : Nat} {gs : TGs} {a : Addr} {xs : List V} {QS : L2.St → Hp → Prop} (h : SqT K H a xs) (hl : xs.length = n) (k : gs xs σ H QS) : gTup K n gs (.ref a) σ H QS := ⟨a, xs, rfl, h, hl, k⟩
theorem x_gcons {gs : TGs} {xs : List V} {QS : L2.St → Hp → Prop} (k : g x σ H fun σ' H' => gs xs σ' H' QS) : gCons g gs (x :: xs) σ H QS := ⟨x, xs, rfl, k⟩
theorem x_gnil {QS : L2.St → Hp → Prop} (k : QS σ H) : gNil [] σ H QS := ⟨rfl, k⟩
theorem x_app {l : Addr} {xs : List V} {K : PySem.W.Frag} (h : H l = some (.lst xs)) (hz : xs.length < 1000000) (k : Q .non (upd H l (.lst (xs ++ [y])))) : rAppend (.ref l) [y] H Q := ⟨l, xs, y, rfl, rfl, h, sz_lt hz, k⟩
theorem x_tyL {p : Addr} {xs : List V} {P : Prop} (h : H p = some (.lst xs)) (k : P) : tyV K "list" (.ref p) H ∧ P := ⟨Or.inl ⟨rfl, xs, sql_of h⟩, k⟩
theorem cpow_of {i j : Int} (h0 : 0 ≤ j) (h1 : j ≤ 1000000) (h2 : -18446744073709551616 < i) (h3 : i < 18446744073709551616) : CPow i j := ⟨h0, h1, by
  have e : (2 : Nat) ^ 64 = 18446744073709551616 := by decide
  rw [e]
  omega⟩
theorem cmul_of {i j : Int} (h0 : -18446744073709551616 < i) (h1 : i < 18446744073709551616) (h2 : -18446744073709551616 < j) (h3 : j < 18446744073709551616) : CMulW i j := by
  have e : (2 : Nat) ^ 64 = 18446744073709551616 := by decide
  exact wide_mul (a := 64) (b := 64) (by rw [e]; omega) (by rw [e]; omega) (by decide) (by decide) (by decide)
theorem cdiv_of {i j : Int} (h0 : 0 < j) (h1 : j < 18446744073709551616) : CDivW i j := by
  have e : (2 : Nat) ^ 64 = 18446744073709551616 := by decide
  exact wide_div (b := 64) h0 (by rw [e]; omega) (by decide) (by decide)
theorem atI_ints {ns : List Int} {i : Int} (h0 : 0 ≤ i) (h : i < ((ns.map V.int).length : Int)) : ∃ z, ns[i.toNat]? = some z ∧ atI (ns.map V.int) i = some (.int z) := by
  rw [List.length_map] at h
  have hi : i.toNat < ns.length := by omega
  refine ⟨ns[i.toNat], List.getElem?_eq_getElem hi, ?_⟩
  have e : (ns.map V.int)[i.toNat]? = some (.int ns[i.toNat]) := by rw [List.getElem?_map, List.getElem?_eq_getElem hi]; rfl
  have q := atI_nat e
  rw [Int.toNat_of_nonneg h0] at q
  exact q
/-! tests decided -/
theorem x_ite {c A B : Prop} [Decidable c] (h1 : c → A) (h2 : ¬ c → B) : if decide c = true then A else B := by
  by_cases h : c
  · rw [decide_eq_true h]; exact h1 h
  · rw [decide_eq_false h]; exact h2 h
theorem x_iteN {c A B : Prop} [Decidable c] (h1 : ¬ c → A) (h2 : c → B) : if (!decide c) = true then A else B := by
  by_cases h : c
  · rw [decide_eq_true h]; exact h2 h
  · rw [decide_eq_false h]; exact h1 h
theorem x_iteb {b : Bool} {A B : Prop} (h1 : b = true → A) (h2 : b = false → B) : if b = true then A else B := by
  cases b
  · exact h2 rfl
  · exact h1 rfl
theorem x_itebN {b : Bool} {A B : Prop} (h1 : b = false → A) (h2 : b = true → B) : if (!b) = true then A else B := by
  cases b
  · exact h1 rfl
  · exact h2 rfl
theorem x_iteY {A B : Prop} (h : A) : if true = true then A else B := h
theorem x_iteNo {A B : Prop} (h : B) : if false = true then A else B := h
theorem x_iteT {b : Bool} {A B : Prop} (e : b = true) (h : A) : if b = true then A else B := by rw [e]; exact h
theorem x_iteF {b : Bool} {A B : Prop} (e : b = false) (h : B) : if b = true then A else B := by rw [e]; exact h
end
end BF
/-! ## What the head tells: names, defs, classes -/
namespace BF
open PySem PySem.Spec PyProof.Rows L2
/-- the function object at a place of the text -/
def fdOf (K : PySem.W.Frag) (p : Str × Option Str) : FuncData := match K.lookup (He.fAd K p) with
  | some ⟨_, _, .func fd, _⟩ => fd
  | _ => PySem.W.fnOf "" "" { posonlyargs := [], args := [], vararg := none, kwonlyargs := [], kw_defaults := [], kwarg := none, defaults := [] } [] { kind := .function, names := [], isGenerator := false, isCoroutine := false } .none .none .none .none none .none .none
structure TX (fa : List He.Fa) (fn : List He.DefD) (ex : PySem.W.Frag → Bool) (K : PySem.W.Frag) (mg : Str → Option Value) : Prop where
  d : He.SaysD fa fn K
  more : ex K = true
  gl : ∀ (x : Str) (v : Value), PySem.W.nsIn K mainGlobals x = some (some v) → mg x = some v
  gn : ∀ (x : Str), PySem.W.nsIn K mainGlobals x = some none → mg x = none
section
variable {fa : List He.Fa} {fn : List He.DefD} {ex : PySem.W.Frag → Bool} {K : PySem.W.Frag} {mg : Str → Option Value}
theorem TX.fact (T : TX fa fn ex K mg) (p : He.Fa → Bool) (h : fa.any p = true) : ∃ f, p f = true ∧ f.ok K = true := by
  obtain ⟨f, hf, e⟩ := List.any_eq_true.mp h
  obtain ⟨i, hi, ei⟩ := List.mem_iff_getElem.mp hf
  exact ⟨f, e, T.d.fact i (f := f) (by rw [List.getElem?_eq_getElem hi, ei])⟩
def isFree (x : Str) : He.Fa → Bool
  | .free y => decide (y = x)
  | _ => false
def isGlo (x : Str) : He.Fa → Bool
  | .glo y => decide (y = x)
  | _ => false
def isCls (x : Str) : He.Fa → Bool
  | .cls y => decide (y = x)
  | _ => false
def isMkr (x : Str) : He.Fa → Bool
  | .mkr y => decide (y = x)
  | _ => false
def isNoat (x f : Str) : He.Fa → Bool
  | .noat y g => decide (y = x) && decide (g = f)
  | _ => false
def isMeth (x f : Str) : He.Fa → Bool
  | .meth y g => decide (y = x) && decide (g = f)
  | _ => false
def isExm (x y : Str) (b : Bool) : He.Fa → Bool
  | .exm u v c => decide (u = x) && (decide (v = y) && decide (c = b))
  | _ => false
theorem TX.free (T : TX fa fn ex K mg) (x : Str) (h : fa.any (isFree x) = true) : mg x = none := by
  obtain ⟨f, e, o⟩ := T.fact _ h
  cases f with
  | free y =>
    have q : y = x := of_decide_eq_true e
    rw [← q]
    exact T.gn y (He.eqO_ok o)
  | _ => cases e
theorem TX.glo (T : TX fa fn ex K mg) (x : Str) (h : fa.any (isGlo x) = true) : mg x = some (.ref (He.ga K x)) := by
  obtain ⟨f, e, o⟩ := T.fact _ h
  cases f with
  | glo y =>
    have q : y = x := of_decide_eq_true e
    rw [← q]
    exact T.gl y _ (He.eqO_ok o)
  | _ => cases e
theorem TX.cls (T : TX fa fn ex K mg) (x : Str) (h : fa.any (isCls x) = true) : Cls K (He.ga K x) := by
  obtain ⟨f, e, o⟩ := T.fact _ h
  cases f with
  | cls y =>
    have q : y = x := of_decide_eq_true e
    rw [← q]
    exact He.cls_ok o
  | _ => cases e
theorem TX.mkr (T : TX fa fn ex K mg) (x : Str) (h : fa.any (isMkr x) = true) : Mk K (He.ga K x) (He.ma K (He.ga K x) "__init__") := by
  obtain ⟨f, e, o⟩ := T.fact _ h
  cases f with
  | mkr y =>
    have q : y = x := of_decide_eq_true e
    rw [← q]
    exact He.mkr_ok o
  | _ => cases e
theorem TX.noat (T : TX fa fn ex K mg) (x a : Str) (h : fa.any (isNoat x a) = true) : NoAttr K (He.ga K x) a := by
  obtain ⟨f, e, o⟩ := T.fact _ h
  cases f with
  | noat y g =>
    obtain ⟨q1, q2⟩ := He.ba e
    rw [← (of_decide_eq_true q1 : y = x), ← (of_decide_eq_true q2 : g = a)]
    exact He.noat_ok o
  | _ => cases e
theorem TX.meth (T : TX fa fn ex K mg) (x m : Str) (h : fa.any (isMeth x m) = true) : Meth K (He.ga K x) m (He.ma K (He.ga K x) m) := by
  obtain ⟨f, e, o⟩ := T.fact _ h
  cases f with
  | meth y g =>
    obtain ⟨q1, q2⟩ := He.ba e
    rw [← (of_decide_eq_true q1 : y = x), ← (of_decide_eq_true q2 : g = m)]
    exact He.meth_ok o
  | _ => cases e
theorem TX.exm (T : TX fa fn ex K mg) (x y : Str) (b : Bool) (h : fa.any (isExm x y b) = true) : PySem.W.exmOne K (.ref (He.ga K x)) (.ref (He.ga K y)) = some b := by
  obtain ⟨f, e, o⟩ := T.fact _ h
  cases f with
  | exm u v c =>
    obtain ⟨q1, q2⟩ := He.ba e
    obtain ⟨q2, q3⟩ := He.ba q2
    rw [← (of_decide_eq_true q1 : u = x), ← (of_decide_eq_true q2 : v = y), ← (of_decide_eq_true q3 : c = b)]
    exact He.exm_ok o
  | _ => cases e
theorem TX.fn_ (T : TX fa fn ex K mg) (i : Nat) {d : He.DefD} (h : fn[i]? = some d) : FunD K d.name d.qual d.params d.body d.scope (d.dvs K) (d.kws K) (He.fAd K d.at_) (fdOf K d.at_) := by
  obtain ⟨fd, F⟩ := T.d.def_ i h
  have e : fd = fdOf K d.at_ := by
    obtain ⟨oc, od, dV, kV, doc, pm, an, cdv, ct, osl, h1, h2, _⟩ := F.ex
    unfold fdOf
    rw [h2]
  rw [← e]
  exact F
end
/-! ### exception classes with an __init__ of their own -/
/-- the class object of an exception class over ValueError -/
def oexB (K : PySem.W.Frag) (C : Addr) : Bool := (match K.lookup C with
  | some ⟨.type "type", _, .cls cd, sl⟩ => (match cd.mro, sl.toList with
    | .ref C' :: bm, [_, _, _, _, some (.builtin n), _] => decide (C' = C) && (decide (n = "ValueError.__new__") && (!cd.hasDel && (cd.hasDict && PySem.HandSPX.refsVE bm)))
    | _, _ => false)
  | _ => false) && (decide (PySem.W.findIn K (.ref C) "__setattr__" = some (some (.builtin "object.__setattr__"))) && (decide (PySem.W.subIn K (.ref C) (.type "BaseException") = some true) && (decide (PySem.W.typeIn K (.ref C) = some (.type "type")) && PySem.W.keepIn K (.ref C))))
theorem oexB_ok {K : PySem.W.Frag} {C : Addr} (h : oexB K C = true) : OexC K C := by
  unfold oexB at h
  obtain ⟨h1, h⟩ := He.ba h
  obtain ⟨h2, h⟩ := He.ba h
  obtain ⟨h3, h⟩ := He.ba h
  obtain ⟨h4, h5⟩ := He.ba h
  refine ⟨?_, of_decide_eq_true h2, of_decide_eq_true h3, of_decide_eq_true h4, h5⟩
  split at h1
  · rename_i dd cd sl ho
    split at h1
    · rename_i C' bm k0 k1 k2 k3 n k5 hm hs
      obtain ⟨e1, h1⟩ := He.ba h1
      obtain ⟨e2, h1⟩ := He.ba h1
      obtain ⟨e3, h1⟩ := He.ba h1
      obtain ⟨e4, e5⟩ := He.ba h1
      obtain ⟨nm, bs, mro, ns, qn, hd, sn, sub, ab, col, del⟩ := cd
      dsimp only at hm e3 e4
      have q1 : C' = C := of_decide_eq_true e1
      have q2 : n = "ValueError.__new__" := of_decide_eq_true e2
      subst q1 q2 hm e4
      have q3 : del = false := by simpa using e3
      subst q3
      have hsl : sl = #[k0, k1, k2, k3, some (.builtin "ValueError.__new__"), k5] := by
        obtain ⟨l⟩ := sl
        simp only at hs
        rw [hs]
      subst hsl
      exact ⟨nm, qn, ns, bs, bm, sn, sub, ab, col, dd, k0, k1, k2, k3, k5, ho, e5⟩
    · cases h1
  · cases h1
/-- what an exception class with fields must say: its name in the module, its fields -/
structure ExcD where
  name : Str
  atts : List Str
def ExcD.ok (K : PySem.W.Frag) (e : ExcD) : Bool := oexB K (He.ga K e.name) && (xfB K (He.ga K e.name) && ((e.atts.all fun f => decide (PySem.W.findIn K (.ref (He.ga K e.name)) f = some none)) &&
  (decide (PySem.W.findIn K (.ref (He.ga K e.name)) "__init__" = some (some (.ref (He.ma K (He.ga K e.name) "__init__")))) && decide (PySem.W.typeIn K (.ref (He.ma K (He.ga K e.name) "__init__")) = some (.type "function")))))
structure ExcOk (K : PySem.W.Frag) (x : Str) : Prop where
  oex : OexC K (He.ga K x)
  xf : XfC K (He.ga K x)
  ini : PySem.W.findIn K (.ref (He.ga K x)) "__init__" = some (some (.ref (He.ma K (He.ga K x) "__init__")))
  fun_ : PySem.W.typeIn K (.ref (He.ma K (He.ga K x) "__init__")) = some (.type "function")
theorem ExcD.to {K : PySem.W.Frag} {e : ExcD} (h : e.ok K = true) : ExcOk K e.name ∧ ∀ f ∈ e.atts, PySem.W.findIn K (.ref (He.ga K e.name)) f = some none := by
  obtain ⟨h1, h⟩ := He.ba h
  obtain ⟨h2, h⟩ := He.ba h
  obtain ⟨h3, h⟩ := He.ba h
  obtain ⟨h4, h5⟩ := He.ba h
  exact ⟨⟨oexB_ok h1, xfB_ok h2, of_decide_eq_true h4, of_decide_eq_true h5⟩, fun f hf => of_decide_eq_true (List.all_eq_true.mp h3 f hf)⟩
/-- an instance class whose instances are asked by isinstance -/
def isiB (K : PySem.W.Frag) (C : Addr) : Bool := decide (PySem.W.findIn K (.ref C) "__class__" = some (some (.builtin "object.__class__"))) && (decide (PySem.W.specialIn K (.builtin "object.__class__") "__get__" = some (some (.builtin "getset_descriptor.__get__"))) &&
  (decide (PySem.W.takesIn K (.builtin "object.__class__") = some true) && decide (PySem.W.mroIn K C (.type "object") = some true)))
theorem isiB_ty {K : PySem.W.Frag} {C a dx : Addr} {fs : List (Str × V)} {H : Hp} (h : isiB K C = true) (c : Cls K C) (e : H a = some (.ins C dx fs)) : TyX K H (.ref a) (.ref C) := by
  obtain ⟨h1, h⟩ := He.ba h
  obtain ⟨h2, h⟩ := He.ba h
  obtain ⟨h3, h4⟩ := He.ba h
  exact .base (.ins e c (of_decide_eq_true h1) (of_decide_eq_true h2) (of_decide_eq_true h3) (of_decide_eq_true h4))
theorem kitO {K : PySem.W.Frag} {C : Addr} : PySem.W.kitOne K (.ref C) (.ref C) = some true := by
  unfold PySem.W.kitOne
  rw [if_pos (beq_self_eq_true _)]
end BF
/-! ## Further rules: operators of own classes, calls by keywords alone, exceptions without values -/
namespace BF
open PySem PySem.Spec PyProof.Rows L2
section
variable {X : Cx} {CX : CXT} {k : Nat} {f C : Addr} {fd : FuncData} {ps : List Str} {sp : Sp} {E : XK}
theorem cmpBack_of {pins : List (Addr × Obj)} {σ : L2.St} {Q : VK} {u : Value} {s' : Shared} (h : EP X pins σ Q u s') : PySem.W.CmpBack (EP X pins σ Q) u s' := by
  cases u with
  | notImplemented =>
    obtain ⟨v, H', I, r, q⟩ := h
    cases v with
    | non => cases r
    | bl b => cases r
    | int i => obtain ⟨t, r⟩ := r; cases r
    | str i => obtain ⟨t, r⟩ := r; cases r
    | byt i => obtain ⟨t, r⟩ := r; cases r
    | flt i => obtain ⟨t, r⟩ := r; cases r
    | ref a => cases r
    | ty n => cases r
  | _ => exact h
/-- a op b of two instances of the class at C by its own method -/
def rOwn (C : Addr) (sp : Sp) (E : XK) : R2 := fun x y H Q => ∃ a b dx dy fs gs, x = .ref a ∧ y = .ref b ∧ H a = some (.ins C dx fs) ∧ H b = some (.ins C dy gs) ∧ sp [.ref a, .ref b] H Q E
theorem op_ownB {op : Operator} (F : FnOk X.prog X.w X.K X.mg X.base CX k f fd ps sp) (hr : Room k X.A) (hc : PySem.W.selfFirst X.K C = true) (hs : PySem.W.findIn X.K (.ref C) (PySem.dunder op.info.2) = some (some (.ref f))) (hf : PySem.W.isFn X.K (.ref f) = true)
    (hb : Binds X.K fd ps []) (hx : Passes CX X E) : OpR X (binaryOp op) (rOwn C sp E) := by
  intro pins s σ H x y v u Q I rx ry hq
  obtain ⟨a, b, dx, dy, fs, gs, rfl, rfl, ha, hb', q⟩ := hq
  cases rx
  cases ry
  obtain ⟨mA, J, _⟩ := ins_get I.hok ha
  obtain ⟨mB, J', _⟩ := ins_get I.hok hb'
  obtain ⟨od, J, _⟩ := J.look
  obtain ⟨od', J', _⟩ := J'.look
  obtain ⟨m, hF⟩ := I.fr
  refine PySem.W.binop_K hF I.ok.mod.kin J J'.type hc hs hf ?_
  exact thn (run_fn (us := [.ref a, .ref b]) (vs := [.ref a, .ref b]) F hr hb .nil hx I (.cons rfl (.cons rfl .nil)) q) fun u s' h => cmpBack_of h
theorem op_ownEq (F : FnOk X.prog X.w X.K X.mg X.base CX k f fd ps sp) (hr : Room k X.A) (hs : PySem.W.findIn X.K (.ref C) "__eq__" = some (some (.ref f))) (hf : PySem.W.isFn X.K (.ref f) = true)
    (hb : Binds X.K fd ps []) (hx : Passes CX X E) : OpR X (compareOp .Eq) (rOwn C sp E) := by
  intro pins s σ H x y v u Q I rx ry hq
  obtain ⟨a, b, dx, dy, fs, gs, rfl, rfl, ha, hb', q⟩ := hq
  cases rx
  cases ry
  obtain ⟨mA, J, _⟩ := ins_get I.hok ha
  obtain ⟨mB, J', _⟩ := ins_get I.hok hb'
  obtain ⟨od, J, _⟩ := J.look
  obtain ⟨od', J', _⟩ := J'.look
  obtain ⟨m, hF⟩ := I.fr
  show wpAny (model X.prog X.w) X.A (richCompare .Eq (.ref a) (.ref b)) (EP X pins σ Q) X.xe s
  refine PySem.W.cmp_K (op := .Eq) (tb := .ref C) hr.units0 hF I.ok.mod.kin J J'.type (by simp [PySem.W.notFirst]) hs hf ?_
  exact thn (run_fn (us := [.ref a, .ref b]) (vs := [.ref a, .ref b]) F hr hb .nil hx I (.cons rfl (.cons rfl .nil)) q) fun u s' h => cmpBack_of h
/-- ~a of an instance of the class at C -/
def rOwn1 (C : Addr) (sp : Sp) (E : XK) : V → Hp → VK → Prop := fun x H Q => ∃ a dx fs, x = .ref a ∧ H a = some (.ins C dx fs) ∧ sp [.ref a] H Q E
theorem un_ownInv (F : FnOk X.prog X.w X.K X.mg X.base CX k f fd ps sp) (hr : Room k X.A) (hs : PySem.W.findIn X.K (.ref C) "__invert__" = some (some (.ref f))) (hf : PySem.W.isFn X.K (.ref f) = true)
    (hb : Binds X.K fd ps []) (hx : Passes CX X E) : UnR X (unaryOp .Invert) (rOwn1 C sp E) := by
  intro pins s σ H x v Q I rx hq
  obtain ⟨a, dx, fs, rfl, ha, q⟩ := hq
  cases rx
  obtain ⟨mA, J, _⟩ := ins_get I.hok ha
  obtain ⟨od, J, _⟩ := J.look
  obtain ⟨m, hF⟩ := I.fr
  refine PySem.W.ksp_inv hF I.ok.mod.kin J hs hf ?_
  exact run_fn (us := [.ref a]) (vs := [.ref a]) F hr hb .nil hx I (.cons rfl .nil) q
theorem x_own {sp : Sp} {K : PySem.W.Frag} {H : Hp} {a b dx dy : Addr} {fs gs : List (Str × V)} {Q : VK} (h1 : H a = some (.ins C dx fs)) (h2 : H b = some (.ins C dy gs)) (k : sp [.ref a, .ref b] H Q E) : rOwn C sp E (.ref a) (.ref b) H Q := ⟨a, b, dx, dy, fs, gs, rfl, rfl, h1, h2, k⟩
theorem x_own1 {sp : Sp} {H : Hp} {a dx : Addr} {fs : List (Str × V)} {Q : VK} (h1 : H a = some (.ins C dx fs)) (k : sp [.ref a] H Q E) : rOwn1 C sp E (.ref a) H Q := ⟨a, dx, fs, rfl, h1, k⟩
end
section
variable {X : Cx} {CX : CXT} {k n : Nat} {f : Addr} {fd : FuncData} {ps ks : List Str} {sp : Sp} {E : XK} {x : Str} {p pos : Pos} {kws : List Keyword} {tk : TA} {g : List Value → List Value → List Value} {gV : List V → List V → List V}
/-- f(k = v, ..): keywords alone -/
theorem pe_callN0 (F : FnOk X.prog X.w X.K X.mg X.base CX k f fd ps sp) (hr : Room k X.A) (hg : Gl X x) (hm : X.mg x = some (.ref f)) (hk : PySem.W.keepIn X.K (.ref f) = true) (hb : KBn X.K fd ps 0 ks g gV) (hx : Passes CX X E)
    (hkw : PK X kws tk) (hall : (backToKw pos (keywordEach kws X.env)).all (·.1.isSome) = true := by rfl) (hks : (backToKw pos (keywordEach kws X.env)).filterMap (·.1) = ks := by rfl)
    (hdb : (x == ("__debug__" : Str)) = false := by decide)
    (hpl : ((backTo pos (starEach [] X.env)).any (·.1) || (backToKw pos (keywordEach kws X.env)).any (·.1.isNone)) = false := by rfl) :
    PE X (.Call (.Name x p) [] kws pos) (tCallN 0 ks.length sp gV E tNil tk) := by
  refine ⟨fun pins s σ H Q I h => ?_⟩
  refine wpAny_Call_Name_kw (ld_glob I hg hm ?_ hdb)
  refine PySem.W.callWith_KW0 (h₀ := X.base) I.ok.mod.kin hk hall ?_ hpl
  refine thn (hkw.run pos pins s σ H _ I h) fun ws s2 ⟨zs, H2, I2, rz, l1, l2, q2⟩ => ⟨I2.kIn, ?_⟩
  rw [hks]
  exact run_fnN (us := []) (vs := []) F hr hb hx I2 .nil rz l1 l2 q2
/-- binding by keywords, no defaults: g puts the positional values and the keywords' values in the parameters' order -/
theorem kbn_of {K : PySem.W.Frag} {x qual : Str} {params : Arguments} {body : List Stmt} {scope : Scope} {kws : List (Str × V)} {f : Addr} {fd : FuncData} {ps : List Str} (F : FunD K x qual params body scope [] kws f fd) (n : Nat) (ks : List Str) (g : {α : Type} → List α → List α → List α)
    (hrel : ∀ {vs zs : List V} {us ws : List Value}, Vals vs us → Vals zs ws → Vals (g vs zs) (g us ws))
    (h : ∀ (kV doc pm : Value) (an : Option Addr) (cdv ct : Value) (us ws : List Value), us.length = n → ws.length = ks.length → bindArgs (PySem.W.fnOf x qual params body scope .none kV doc pm an cdv ct) ⟨us, ks.zip ws⟩ = pure (ps.zip (g us ws))) :
    KBn K fd ps n ks (fun us ws => g us ws) (fun vs zs => g vs zs) := by
  obtain ⟨oc, od, dV, kV, doc, pm, an, cdv, ct, osl, rfl, lk, hcd, hD, hK⟩ := F.ex
  rcases hD with ⟨_, rfl⟩ | ⟨e, _⟩
  · exact ⟨fun s us ws _ l1 l2 => .of_eq (h kV doc pm an cdv ct us ws l1 l2), fun r1 r2 => hrel r1 r2⟩
  · exact absurd rfl e
end
section
variable {X : Cx} {CX : CXT} {k : Nat} {fI C : Addr} {fd : FuncData} {ps : List Str} {sp : Sp} {x : Str} {p pos : Pos}
/-- raise C() -/
theorem pmk_oex0 (T : OexC X.K C) (iC : PySem.W.findIn X.K (.ref C) "__init__" = some (some (.ref fI))) (tI : PySem.W.typeIn X.K (.ref fI) = some (.type "function"))
    (F1 : FnOk X.prog X.w X.K X.mg X.base CX k fI fd ps sp) (hr : Room (k + 1) X.A) (hb : Binds X.K fd ps []) (hx : Passes CX X (fun _ _ _ => False)) (hg : Gl X x) (hm : X.mg x = some (.ref C))
    (hdb : (x == ("__debug__" : Str)) = false := by decide) :
    PMk X (.Call (.Name x p) [] [] pos) (tMkO C sp [] tNil) := by
  intro pins s σ H Q I h
  obtain ⟨nm, q, N, bs, bm, sn, sub, ab, col, dd, k0, k1, k2, k3, k5, hC, hbm⟩ := T.cls
  refine wpAny_Call_Name_kw (ld_glob I hg hm ?_ hdb)
  obtain ⟨hz, q1⟩ := h
  refine PySem.W.callWith_K0 I.kIn T.kC ?_
  show wpAny _ _ (call (.ref C) []) _ _ _
  obtain ⟨hp, g, dr, tk, os⟩ := s
  have hsz : hp.objs.size ≤ hp.objs.size + 1 := Nat.le_succ _
  have hn : H (hp.objs.size + 1) = none := I.hok.fresh hsz
  have hq := q1 (hp.objs.size + 1) hn
  have kk : ∀ b o, hp.get? b = some o → ((hp.push (PySem.W.kdv_tup [])).push (PySem.HandSPX.excO C hp.objs.size)).get? b = some o := fun b o e => Heap.get?_push_of_some _ (Heap.get?_push_of_some _ e)
  have hget : ((hp.push (PySem.W.kdv_tup [])).push (PySem.HandSPX.excO C hp.objs.size)).get? (hp.objs.size + 1) = some (PySem.HandSPX.excO C hp.objs.size) := by heap_get
  have I2 : Inv X pins σ (upd H (hp.objs.size + 1) (exo (hp.objs.size + 1) C none)) ⟨(hp.push (PySem.W.kdv_tup [])).push (PySem.HandSPX.excO C hp.objs.size), g, dr, tk, os⟩ :=
    I.laid (t' := tk) (a := hp.objs.size + 1) (o := exo (hp.objs.size + 1) C none) (h' := (hp.push (PySem.W.kdv_tup [])).push (PySem.HandSPX.excO C hp.objs.size)) kk hsz (exo_ok hget)
  have r2 : Vals [V.ref (hp.objs.size + 1)] [Value.ref (hp.objs.size + 1)] := .cons rfl .nil
  have hl : ([Value.ref (hp.objs.size + 1)] ++ ([] : List Value)).length = ps.length := by
    have e := r2.length
    have e2 := F1.len _ _ _ _ hq
    rw [← e2] <;> rfl
  refine wpAny_call (PySem.HandSPX.call_own F.excBase_ValueError (fun Y => PySem.HandSPX.refsVE_contains Y bm hbm) (I.kIn _ _ hC) (PySem.W.looks_findIn I.kIn iC) (fun self => PySem.W.bind_fn I.kIn self tI) (rest := []) (Nat.zero_le _)
    (codeAny_mono (F1.run _ X.stack _ _ ⟨[Value.ref (hp.objs.size + 1)], []⟩ ([Value.ref (hp.objs.size + 1)] ++ []) _ _ (fun _ _ _ => False) (hr.make C [] []) (I2.env0.make C [] []) (hb _ [Value.ref (hp.objs.size + 1)] I2.kIn hl) r2 hq) fun r s' hq' => ?_))
  cases r with
  | error er => exact hx pins σ _ _ er s' I2 hq'
  | ok fl =>
    cases fl with
    | ret u =>
      obtain ⟨v, H2, os2, bare2, un2, hok2, rv, ev, d, fs, ea, ed, hd1, q2⟩ := hq'
      subst ev
      obtain ⟨h2, g2, d2, t2, os'⟩ := s'
      exact ⟨rv, mk_end (raises_own T.exC T.tyC) I hsz kk un2 hok2 os2 bare2 ea ed hd1 q2⟩
    | next => exact False.elim hq'
    | brk => exact False.elim hq'
    | cont => exact False.elim hq'
end
end BF
/-! ## Loops, comprehensions, data, isinstance -/
namespace BF
open PySem PySem.Spec PyProof.Rows L2
section
variable {K : PySem.W.Frag} {σ : L2.St} {H : Hp} {D : Ends} {g : TG} {tb : TS} {xs ys : List V}
theorem x_for {wi : TI} (k : wi σ H fun J H1 => ∃ W : Nat → Nat → L2.St → Hp → Prop, (∃ m, W 0 m σ H1) ∧ ∀ i m σ H, W i m σ H →
    (J.stop i H ∧ D.nx σ H) ∨ (J.go i H ∧ ∃ N : L2.St → Hp → Prop, (∀ σ' H', N σ' H' → ∃ m', m' < m ∧ W (i + 1) m' σ' H') ∧ ∀ x H', J.yld i H x H' → g x σ H' fun σ2 H2 => tb { D with nx := N, ct := N, bk := D.nx } σ2 H2)) : tFor wi g tb D σ H := k
theorem x_ilist {tl : TE} {R : It → Hp → Prop} (k : tl σ H fun x H1 => ∃ a, x = .ref a ∧ (∃ xs, SqL K H1 a xs) ∧ R (Itl K a) H1) : iList K tl σ H R := k
theorem x_itup {tl : TE} {R : It → Hp → Prop} (k : tl σ H fun x H1 => ∃ a, x = .ref a ∧ (∃ xs, SqT K H1 a xs) ∧ R (Itt K a) H1) : iTup K tl σ H R := k
theorem x_irng {ta : TA} {R : It → Hp → Prop} (k : ta σ H fun vs H1 => ∃ j : Int, vs = [.int j] ∧ -(2 ^ 62) ≤ j ∧ j < 2 ^ 62 ∧ R (Itr 0 j.toNat) H1) : iRng1 ta σ H R := k
theorem x_izipA {ta : TA} {R : It → Hp → Prop} (k : ta σ H fun vs H1 => ∃ a b xs ys, vs = [.ref a, .ref b] ∧ ((SqL K H1 a xs ∧ SqL K H1 b ys ∧ R (Itz K a b) H1) ∨ (SqT K H1 a xs ∧ SqT K H1 b ys ∧ R (RZ.ItzT K a b) H1))) : RZ.iZipA K ta σ H R := k
theorem x_onList {a : Addr} {R : Addr → Prop} (h : SqL K H a xs) (k : R a) : ∃ a', V.ref a = .ref a' ∧ (∃ xs, SqL K H a' xs) ∧ R a' := ⟨a, rfl, ⟨xs, h⟩, k⟩
theorem x_onTup {a : Addr} {R : Addr → Prop} (h : SqT K H a xs) (k : R a) : ∃ a', V.ref a = .ref a' ∧ (∃ xs, SqT K H a' xs) ∧ R a' := ⟨a, rfl, ⟨xs, h⟩, k⟩
theorem x_onRng {j : Int} {R : Int → Prop} (h0 : -1000000000000 ≤ j) (h1 : j ≤ 1000000000000) (k : R j) : ∃ j' : Int, [V.int j] = [.int j'] ∧ -(2 ^ 62) ≤ j' ∧ j' < 2 ^ 62 ∧ R j' := ⟨j, rfl, by omega, by omega, k⟩
theorem x_onZipL {a b : Addr} {R R' : Addr → Addr → Prop} (h : SqL K H a xs) (h' : SqL K H b ys) (k : R a b) :
    ∃ a' b' xs ys, [V.ref a, V.ref b] = [.ref a', .ref b'] ∧ ((SqL K H a' xs ∧ SqL K H b' ys ∧ R a' b') ∨ (SqT K H a' xs ∧ SqT K H b' ys ∧ R' a' b')) := ⟨a, b, xs, ys, rfl, .inl ⟨h, h', k⟩⟩
theorem x_onZipT {a b : Addr} {R R' : Addr → Addr → Prop} (h : SqT K H a xs) (h' : SqT K H b ys) (k : R' a b) :
    ∃ a' b' xs ys, [V.ref a, V.ref b] = [.ref a', .ref b'] ∧ ((SqL K H a' xs ∧ SqL K H b' ys ∧ R a' b') ∨ (SqT K H a' xs ∧ SqT K H b' ys ∧ R' a' b')) := ⟨a, b, xs, ys, rfl, .inr ⟨h, h', k⟩⟩
theorem walk_zipT {a b : Addr} {n : Nat} (hn : n = min xs.length ys.length) : Walk (RZ.ItzT K a b) n (fun H => SqT K H a xs ∧ SqT K H b ys) (YPair (fun i => xs[i]?) (fun i => ys[i]?)) := by
  subst hn
  refine ⟨fun i _ hi q => ?_, fun _ q => ⟨xs, ys, q.1, q.2, by omega⟩, fun i H v H' _ q y => ?_⟩
  · have h1 : i < xs.length := by omega
    have h2 : i < ys.length := by omega
    exact ⟨xs, ys, xs[i], ys[i], q.1, q.2, by simp [h1], by simp [h2]⟩
  · obtain ⟨T, x, z, h1, h2, h3, h4, h5⟩ := y
    exact ⟨T, x, z, h1, h2, h3, h4 xs q.1, h5 ys q.2⟩
theorem x_lc {wi : TI} {tt : TT} {te : TE} {vs : List Nat} {Q : VK} (k : wi σ H fun J H1 => ∀ D, H1 D = none → ∃ W : Nat → Nat → Hp → Prop, (∃ m, W 0 m (upd H1 D (.lst []))) ∧ ∀ i m H, W i m H →
  (J.stop i H ∧ Q (.ref D) H) ∨ (J.go i H ∧ ∃ Nx : Hp → Prop, (∀ H', Nx H' → ∃ m', m' < m ∧ W (i + 1) m' H') ∧ ∀ x H', J.yld i H x H' → g x (wipe σ vs) H' fun σ2 H2 => wipe σ2 vs = wipe σ vs ∧ tt σ2 H2 fun b H3 =>
    if b = true then te σ2 H3 fun y H4 => ∃ acc, H4 D = some (.lst acc) ∧ acc.length < sizeLine ∧ Nx (upd H4 D (.lst (acc ++ [y]))) else Nx H3)) : tLc wi g tt te vs σ H Q := k
/-- what is known between a comprehension's turns: D the new list, M what the turns may change, R of the list so far -/
def LCP (M : List Addr) (H1 : Hp) (R : Nat → List V → Hp → Prop) (D : Addr) (i : Nat) (H : Hp) : Prop := ∃ acc, H D = some (.lst acc) ∧ acc.length ≤ i ∧ Ex M H1 H ∧ R i acc H
theorem lc_push {M : List Addr} {H1 H H4 : Hp} {R : Nat → List V → Hp → Prop} {D : Addr} {i : Nat} {acc : List V} {y : V} (hM : Al M H1) (stab : ∀ i acc H o, R i acc H → R i acc (upd H D o)) (hD : H1 D = none) (hi : i < 1000000) (hacc : H D = some (.lst acc)) (hl : acc.length ≤ i)
    (e : Ex M H1 H) (e4 : Ex M H H4) (r : R (i + 1) (acc ++ [y]) H4) : ∃ acc, H4 D = some (.lst acc) ∧ acc.length < sizeLine ∧ LCP M H1 R D (i + 1) (upd H4 D (.lst (acc ++ [y]))) :=
  ⟨acc, e4 D _ (hM.out hD) hacc, sz_lt (by omega), acc ++ [y], upd_same, by rw [List.length_append]; exact Nat.add_le_add_right hl 1, Ex.mut hD (e.tr e4), stab _ _ _ _ r⟩
theorem lc_skip {M : List Addr} {H1 H H3 : Hp} {R : Nat → List V → Hp → Prop} {D : Addr} {i : Nat} {acc : List V} (hM : Al M H1) (hD : H1 D = none) (hacc : H D = some (.lst acc)) (hl : acc.length ≤ i)
    (e : Ex M H1 H) (e3 : Ex M H H3) (r : R (i + 1) acc H3) : LCP M H1 R D (i + 1) H3 := ⟨acc, e3 D _ (hM.out hD) hacc, Nat.le_succ_of_le hl, e.tr e3, r⟩
theorem x_lcW {J : It} {n : Nat} {G : Hp → Prop} {Y : Nat → Hp → V → Hp → Prop} (w : Walk J n G Y) {tt : TT} {te : TE} {vs : List Nat} {H1 : Hp} {Qd : Addr → Hp → Prop} (M : List Addr) (R : Nat → List V → Hp → Prop)
    (h0 : ∀ D o, H1 D = none → R 0 [] (upd H1 D o)) (hG : ∀ H, Ex M H1 H → G H)
    (hs : ∀ D i x H H' acc, H1 D = none → i < n → H D = some (.lst acc) → acc.length ≤ i → Ex M H1 H → R i acc H → Y i H x H' → g x (wipe σ vs) H' fun σ2 H2 => wipe σ2 vs = wipe σ vs ∧ tt σ2 H2 fun b H3 =>
      if b = true then te σ2 H3 fun y H4 => ∃ acc, H4 D = some (.lst acc) ∧ acc.length < sizeLine ∧ LCP M H1 R D (i + 1) (upd H4 D (.lst (acc ++ [y]))) else LCP M H1 R D (i + 1) H3)
    (hd : ∀ D H acc, H1 D = none → H D = some (.lst acc) → acc.length ≤ n → Ex M H1 H → R n acc H → Qd D H) :
    ∀ D, H1 D = none → ∃ W : Nat → Nat → Hp → Prop, (∃ m, W 0 m (upd H1 D (.lst []))) ∧ ∀ i m H, W i m H →
      (J.stop i H ∧ Qd D H) ∨ (J.go i H ∧ ∃ Nx : Hp → Prop, (∀ H', Nx H' → ∃ m', m' < m ∧ W (i + 1) m' H') ∧ ∀ x H', J.yld i H x H' → g x (wipe σ vs) H' fun σ2 H2 => wipe σ2 vs = wipe σ vs ∧ tt σ2 H2 fun b H3 =>
        if b = true then te σ2 H3 fun y H4 => ∃ acc, H4 D = some (.lst acc) ∧ acc.length < sizeLine ∧ Nx (upd H4 D (.lst (acc ++ [y]))) else Nx H3) := by
  intro D hD
  refine lc_it w (LCP M H1 R D) ⟨[], upd_same, Nat.le_refl _, Ex.new hD, h0 D _ hD⟩ (fun i H _ ⟨acc, _, _, e, _⟩ => hG H e) ?_ ?_
  · rintro i x H H' hi ⟨acc, hacc, hl, e, r⟩ y
    exact hs D i x H H' acc hD hi hacc hl e r y
  · rintro H ⟨acc, hacc, hl, e, r⟩
    exact hd D H acc hD hacc hl e r
end

/-! ### data -/
inductive DV where
  | non | bl (b : Bool) | int (i : Int) | str (x : Str) | lst (ds : List DV) | tup (ds : List DV)
mutual
inductive Dat (K : PySem.W.Frag) (M : List Addr) (H : Hp) : V → DV → Prop
  | non : Dat K M H .non .non
  | bl (b : Bool) : Dat K M H (.bl b) (.bl b)
  | int (i : Int) : Dat K M H (.int i) (.int i)
  | str (x : Str) : Dat K M H (.str x) (.str x)
  | lst {a : Addr} {xs : List V} {ds : List DV} : SqL K H a xs → a ∉ M → DatL K M H xs ds → Dat K M H (.ref a) (.lst ds)
  | tup {a : Addr} {xs : List V} {ds : List DV} : SqT K H a xs → a ∉ M → DatL K M H xs ds → Dat K M H (.ref a) (.tup ds)
inductive DatL (K : PySem.W.Frag) (M : List Addr) (H : Hp) : List V → List DV → Prop
  | nil : DatL K M H [] []
  | cons {v : V} {vs : List V} {d : DV} {ds : List DV} : Dat K M H v d → DatL K M H vs ds → DatL K M H (v :: vs) (d :: ds)
end
section
variable {K : PySem.W.Frag} {M M' : List Addr} {H H' : Hp}
mutual
theorem Dat.ex (e : Ex M' H H') (s : ∀ x ∈ M', x ∈ M) : ∀ {v : V} {d : DV}, Dat K M H v d → Dat K M H' v d
  | _, _, .non => .non
  | _, _, .bl b => .bl b
  | _, _, .int i => .int i
  | _, _, .str x => .str x
  | _, _, .lst h n l => .lst (sql_ex e (fun z => n (s _ z)) h) n (DatL.ex e s l)
  | _, _, .tup h n l => .tup (sqt_ex e (fun z => n (s _ z)) h) n (DatL.ex e s l)
theorem DatL.ex (e : Ex M' H H') (s : ∀ x ∈ M', x ∈ M) : ∀ {vs : List V} {ds : List DV}, DatL K M H vs ds → DatL K M H' vs ds
  | _, _, .nil => .nil
  | _, _, .cons h l => .cons (Dat.ex e s h) (DatL.ex e s l)
end
mutual
theorem Dat.sub (s : ∀ x ∈ M', x ∈ M) : ∀ {v : V} {d : DV}, Dat K M H v d → Dat K M' H v d
  | _, _, .non => .non
  | _, _, .bl b => .bl b
  | _, _, .int i => .int i
  | _, _, .str x => .str x
  | _, _, .lst h n l => .lst h (fun z => n (s _ z)) (DatL.sub s l)
  | _, _, .tup h n l => .tup h (fun z => n (s _ z)) (DatL.sub s l)
theorem DatL.sub (s : ∀ x ∈ M', x ∈ M) : ∀ {vs : List V} {ds : List DV}, DatL K M H vs ds → DatL K M' H vs ds
  | _, _, .nil => .nil
  | _, _, .cons h l => .cons (Dat.sub s h) (DatL.sub s l)
end
theorem DatL.length : ∀ {vs : List V} {ds : List DV}, DatL K M H vs ds → vs.length = ds.length
  | _, _, .nil => rfl
  | _, _, .cons _ l => congrArg Nat.succ (DatL.length l)
theorem DatL.get : ∀ {vs : List V} {ds : List DV} {i : Nat} {v : V}, DatL K M H vs ds → vs[i]? = some v → ∃ d, ds[i]? = some d ∧ Dat K M H v d
  | _, _, i, _, .nil, e => by simp at e
  | _, _, 0, _, .cons h _, e => by
    simp at e
    subst e
    exact ⟨_, rfl, h⟩
  | _, _, i + 1, _, .cons _ l, e => by
    obtain ⟨d, h1, h2⟩ := DatL.get (i := i) l (by simpa using e)
    exact ⟨d, by simpa using h1, h2⟩
theorem DatL.at : ∀ {vs : List V} {ds : List DV} {i : Nat} {d : DV}, DatL K M H vs ds → ds[i]? = some d → ∃ v, vs[i]? = some v ∧ Dat K M H v d
  | _, _, i, _, .nil, e => by simp at e
  | _, _, 0, _, .cons h _, e => by
    simp at e
    subst e
    exact ⟨_, rfl, h⟩
  | _, _, i + 1, _, .cons _ l, e => by
    obtain ⟨d, h1, h2⟩ := DatL.at (i := i) l (by simpa using e)
    exact ⟨d, by simpa using h1, h2⟩
theorem DatL.ints : ∀ (ns : List Int), DatL K M H (ns.map V.int) (ns.map DV.int)
  | [] => .nil
  | n :: ns => .cons (.int n) (DatL.ints ns)
theorem DatL.app : ∀ {vs vs' : List V} {ds ds' : List DV}, DatL K M H vs ds → DatL K M H vs' ds' → DatL K M H (vs ++ vs') (ds ++ ds')
  | _, _, _, _, .nil, h => h
  | _, _, _, _, .cons a l, h => .cons a (DatL.app l h)
end
/-- how deep a datum is nested -/
inductive Deep : Nat → DV → Prop
  | non {n} : Deep n .non
  | bl {n} (b : Bool) : Deep n (.bl b)
  | int {n} (i : Int) : Deep n (.int i)
  | str {n} (x : Str) : Deep n (.str x)
  | lst {n} {ds : List DV} : ds.length < 1000000 → (∀ d ∈ ds, Deep n d) → Deep (n + 1) (.lst ds)
  | tup {n} {ds : List DV} : ds.length < 1000000 → (∀ d ∈ ds, Deep n d) → Deep (n + 1) (.tup ds)
/-- its type -/
def DV.ty : DV → String
  | .non => "NoneType" | .bl _ => "bool" | .int _ => "int" | .str _ => "str" | .lst _ => "list" | .tup _ => "tuple"
theorem ty_sqL {K : PySem.W.Frag} {H : Hp} {a : Addr} {xs : List V} (h : SqL K H a xs) : TyX K H (.ref a) (.type "list") := by
  rcases h with (h | ⟨o, h⟩) | ⟨o, its, n, h, hc, _⟩
  · exact .base (.lst h)
  · exact .base (.frz h)
  · exact .kList h hc
theorem ty_sqT {K : PySem.W.Frag} {H : Hp} {a : Addr} {xs : List V} (h : SqT K H a xs) : TyX K H (.ref a) (.type "tuple") := by
  rcases h with (h | ⟨o, h⟩) | ⟨o, its, n, h, hc, _⟩
  · exact .base (.tup h)
  · exact .fTuple h
  · exact .kTuple h hc
theorem Dat.ty {K : PySem.W.Frag} {M : List Addr} {H : Hp} {v : V} {d : DV} (h : Dat K M H v d) : TyX K H v (.type d.ty) := by
  cases h with
  | non => exact .base .non
  | bl b => exact .base (.bl b)
  | int i => exact .base (.int i)
  | str x => exact .base (.str x)
  | lst h _ _ => exact ty_sqL h
  | tup h _ _ => exact ty_sqT h
theorem x_isi {K : PySem.W.Frag} {H : Hp} {Q : VK} {x : V} {a b : String} {r : Bool} (h : TyX K H x (.type a)) (e : kitB a b = some r) (k : Q (.bl r) H) : rIsi K [x, .ty b] H Q := ⟨x, .ty b, .type a, .type b, r, rfl, .ty b, h, kit_ty e, k⟩
theorem kitLT {K : PySem.W.Frag} {a : String} {r1 r2 : Bool} (h1 : kitB a "list" = some r1) (h2 : kitB a "tuple" = some r2) : PySem.W.kitAny K (.type a) [.type "list", .type "tuple"] = some (r1 || r2) := by
  refine kitAny_cons (b := r1) (kit_ty h1) (fun e => ?_) (fun e => by rw [e]; rfl)
  rw [e]
  refine kitAny_cons (b := r2) (kit_ty h2) (fun e => ?_) (fun e => by rw [e]; rfl)
  rw [e]
  exact kitAny_nil
theorem x_isiLT {K : PySem.W.Frag} {H : Hp} {Q : VK} {x : V} {tp : Addr} {a : String} {r1 r2 : Bool} (h : TyX K H x (.type a)) (ht : H tp = some (.tup [.ty "list", .ty "tuple"])) (e1 : kitB a "list" = some r1) (e2 : kitB a "tuple" = some r2) (k : Q (.bl (r1 || r2)) H) :
    rIsiT K [x, .ref tp] H Q := ⟨x, tp, _, .type a, [.type "list", .type "tuple"], r1 || r2, rfl, ht, .cons (.ty _) (.cons (.ty _) .nil), h, kitLT e1 e2, k⟩
theorem fnOk_false {P : Program} {w : World} {K : PySem.W.Frag} {mg : Str → Option Value} {base : Heap} {CX : CXT} {k : Nat} {f : Addr} {fd : FuncData} {ps : List Str} : FnOk P w K mg base CX k f fd ps (fun _ _ _ _ => False) :=
  ⟨fun _ _ _ _ h => h.elim, fun _ _ _ _ _ _ _ _ _ _ _ _ _ h => h.elim⟩
theorem x_yes {σ : L2.St} {H : Hp} {Q : Bool → Hp → Prop} (k : Q true H) : tYes σ H Q := k
theorem x_all {K : PySem.W.Frag} {H : Hp} {Q : VK} {a : Addr} {bs : List Bool} (h : SqL K H a (bs.map V.bl)) (k : Q (.bl (bs.all id)) H) : rAll K [.ref a] H Q := ⟨a, bs, rfl, h, k⟩
end BF
/-! ## isinstance of plain values against plain types, and whether two data are the same -/
namespace BF
open PySem PySem.Spec PyProof.Rows L2
theorem kb_NoneType_list : kitB "NoneType" "list" = some false := by decide +kernel
theorem kb_NoneType_tuple : kitB "NoneType" "tuple" = some false := by decide +kernel
theorem kb_NoneType_bool : kitB "NoneType" "bool" = some false := by decide +kernel
theorem kb_NoneType_str : kitB "NoneType" "str" = some false := by decide +kernel
theorem kb_NoneType_int : kitB "NoneType" "int" = some false := by decide +kernel
theorem kb_bool_list : kitB "bool" "list" = some false := by decide +kernel
theorem kb_bool_tuple : kitB "bool" "tuple" = some false := by decide +kernel
theorem kb_bool_bool : kitB "bool" "bool" = some true := by decide +kernel
theorem kb_bool_str : kitB "bool" "str" = some false := by decide +kernel
theorem kb_bool_int : kitB "bool" "int" = some true := by decide +kernel
theorem kb_int_list : kitB "int" "list" = some false := by decide +kernel
theorem kb_int_tuple : kitB "int" "tuple" = some false := by decide +kernel
theorem kb_int_bool : kitB "int" "bool" = some false := by decide +kernel
theorem kb_int_str : kitB "int" "str" = some false := by decide +kernel
theorem kb_int_int : kitB "int" "int" = some true := by decide +kernel
theorem kb_str_list : kitB "str" "list" = some false := by decide +kernel
theorem kb_str_tuple : kitB "str" "tuple" = some false := by decide +kernel
theorem kb_str_bool : kitB "str" "bool" = some false := by decide +kernel
theorem kb_str_str : kitB "str" "str" = some true := by decide +kernel
theorem kb_str_int : kitB "str" "int" = some false := by decide +kernel
theorem kb_list_list : kitB "list" "list" = some true := by decide +kernel
theorem kb_list_tuple : kitB "list" "tuple" = some false := by decide +kernel
theorem kb_list_bool : kitB "list" "bool" = some false := by decide +kernel
theorem kb_list_str : kitB "list" "str" = some false := by decide +kernel
theorem kb_list_int : kitB "list" "int" = some false := by decide +kernel
theorem kb_tuple_list : kitB "tuple" "list" = some false := by decide +kernel
theorem kb_tuple_tuple : kitB "tuple" "tuple" = some true := by decide +kernel
theorem kb_tuple_bool : kitB "tuple" "bool" = some false := by decide +kernel
theorem kb_tuple_str : kitB "tuple" "str" = some false := by decide +kernel
theorem kb_tuple_int : kitB "tuple" "int" = some false := by decide +kernel
section
variable {X : Cx}
theorem op_addUK (K : PySem.W.Frag) (h : X.K = K := by rfl) : OpR X (binaryOp .Add) (rAddU K) := h ▸ op_addU
theorem ix_LTK (K : PySem.W.Frag) (h : X.K = K := by rfl) : IxR X (rIxLT K) := h ▸ ix_LT
theorem call_lenLTK (K : PySem.W.Frag) (h : X.K = K := by rfl) : CallR X (.builtin "len") (rLenLT K) := h ▸ call_lenLT
theorem call_listLTK (K : PySem.W.Frag) (h : X.K = K := by rfl) : CallR X (.type "list") (rListLT K) := h ▸ call_listLT
theorem call_tupLTK (K : PySem.W.Frag) (h : X.K = K := by rfl) : CallR X (.type "tuple") (rTupLT K) := h ▸ call_tupLT
theorem call_isiK' (K : PySem.W.Frag) (h : X.K = K := by rfl) : CallR X (.builtin "isinstance") (rIsi K) := h ▸ call_isi
theorem call_isiTK (K : PySem.W.Frag) (h : X.K = K := by rfl) : CallR X (.builtin "isinstance") (rIsiT K) := h ▸ call_isiT
theorem op_inK (K : PySem.W.Frag) (h : X.K = K := by rfl) : OpR X (compareOp .In) (rIn K false) := h ▸ op_in_seq
theorem op_notInK (K : PySem.W.Frag) (h : X.K = K := by rfl) : OpR X (compareOp .NotIn) (rIn K true) := h ▸ op_notIn_seq
theorem op_eqDK (K : PySem.W.Frag) (hu : X.A.units + 64 < cLine) (h : X.K = K := by rfl) : OpR X (compareOp .Eq) (rEqD K) := h ▸ op_eqD hu
theorem op_neDK (K : PySem.W.Frag) (hu : X.A.units + 64 < cLine) (h : X.K = K := by rfl) : OpR X (compareOp .NotEq) (rNeD K) := h ▸ op_neD hu
theorem cr_allK (K : PySem.W.Frag) (hc : X.calm = true := by rfl) (h : X.K = K := by rfl) : CallR X (.builtin "all") (rAll K) := h ▸ cr_all hc
theorem sl_listK (K : PySem.W.Frag) (h : X.K = K := by rfl) : SlR X (rSlL K) := h ▸ sl_list
theorem pe_fldK (K : PySem.W.Frag) {o : Expr} {f : Str} {ta : TE} {pos : Pos} (he : PE X o ta) (hb : attributeBase o f X.env (eval o X.env) = eval o X.env := by rfl) (h : X.K = K := by rfl) : PE X (.Attribute o f pos) (tFld K ta f) := h ▸ pe_fld he hb
end
/-! ### new tuples and lists, the heap behind them told by what it keeps -/
section
variable {X : Cx} {es : List Expr} {t : TA} {pos : Pos}
def tW (t : TA) : TA := fun σ H Q => ∃ P : List V → Hp → Prop, t σ H P ∧ ∀ xs H1, P xs H1 → Q xs H1
theorem pa_weak (h : PA X es t) : PA X es (tW t) := ⟨fun pos pins s σ H Q I ⟨P, hp, k⟩ => thn (h.run pos pins s σ H P I hp) fun us s1 ⟨vs, H1, I1, r, q⟩ => ⟨vs, H1, I1, r, k vs H1 q⟩⟩
theorem PE.imp {e : Expr} {t t' : TE} (h : PE X e t) (i : ∀ σ H Q, t' σ H Q → t σ H Q) : PE X e t' := ⟨fun pins s σ H Q I q => h.run pins s σ H Q I (i σ H Q q)⟩
def tTupE (t : TA) : TE := fun σ H Q => t σ H fun xs H1 => xs.length ≤ 1000000 ∧ ∀ p H2, H1 p = none → Ex [] H1 H2 → H2 p = some (.tup xs) → Q (.ref p) H2
def tLstE (t : TA) : TE := fun σ H Q => t σ H fun xs H1 => xs.length ≤ 1000000 ∧ ∀ p H2, H1 p = none → Ex [] H1 H2 → H2 p = some (.lst xs) → Q (.ref p) H2
theorem pe_tupE {x1} (h : PA X es t) : PE X (.Tuple es x1 pos) (tTupE t) := PE.imp (pe_tup (pa_weak h)) fun σ H Q q => ⟨_, q, fun xs H1 ⟨l, k⟩ => ⟨sz_of l, fun p hp => k p _ hp (Ex.new hp) upd_same⟩⟩
theorem pe_lstE (h : PA X es t) : PE X (.List es pos) (tLstE t) := PE.imp (pe_lst (pa_weak h)) fun σ H Q q => ⟨_, q, fun xs H1 ⟨l, k⟩ => ⟨sz_of l, fun p hp => k p _ hp (Ex.new hp) upd_same⟩⟩
theorem x_tupE {σ : L2.St} {H : Hp} {Q : VK} (k : t σ H fun xs H1 => xs.length ≤ 1000000 ∧ ∀ p H2, H1 p = none → Ex [] H1 H2 → H2 p = some (.tup xs) → Q (.ref p) H2) : tTupE t σ H Q := k
theorem x_lstE {σ : L2.St} {H : Hp} {Q : VK} (k : t σ H fun xs H1 => xs.length ≤ 1000000 ∧ ∀ p H2, H1 p = none → Ex [] H1 H2 → H2 p = some (.lst xs) → Q (.ref p) H2) : tLstE t σ H Q := k
theorem x_len1 {xs : List V} {P : Prop} (h : xs.length ≤ 1000000) (k : P) : xs.length ≤ 1000000 ∧ P := ⟨h, k⟩
end
end BF
/-! ## Objects: fields, making, dead branches, membership, wide numbers -/
namespace BF
open PySem PySem.Spec PyProof.Rows L2
section
variable {X : Cx} {CX : CXT} {k : Nat} {f C : Addr} {fd : FuncData} {ps : List Str} {sp : Sp} {dvs : List V} {ds : List Value} {E : XK} {x : Str} {p pos : Pos} {e : Expr} {es : List Expr} {t : TA}
/-- a statement that is never reached -/
theorem ps_dead {s : Stmt} : PS X s (fun _ _ _ => False) := ⟨fun _ _ _ _ _ _ h => h.elim⟩
def tMakeE (C : Addr) (sp : Sp) (dvs : List V) (E : XK) (t : TA) : TE := fun σ H Q => t σ H fun vs H1 => ∀ x dx H', H1 x = none → Ex [] H1 H' → H' x = some (.ins C dx []) → sp (.ref x :: (vs ++ dvs)) H' (fun v H2 => v = .non ∧ Q (.ref x) H2) E
theorem pe_makeE (M : Mk X.K C f) (F : FnOk X.prog X.w X.K X.mg X.base CX k f fd ps sp) (hr : Room (k + 1) X.A) (hg : Gl X x) (hm : X.mg x = some (.ref C)) (hb : Binds X.K fd ps ds) (hd : Vals dvs ds) (hx : Passes CX X E)
    (ha : PA X (e :: es) t) (hdb : (x == ("__debug__" : Str)) = false := by decide) (he : starEach (e :: es) X.env = (false, eval e X.env) :: starEach es X.env := by rfl) (hpl : (backTo pos (starEach es X.env)).any (·.1) = false := by rfl) :
    PE X (.Call (.Name x p) (e :: es) [] pos) (tMakeE C sp dvs E t) :=
  PE.imp (pe_make M F hr hg hm hb hd hx (pa_weak ha) hdb he hpl) fun σ H Q q => ⟨_, q, fun xs H1 k x dx n1 n2 ne => k x dx _ n1 ((Ex.new n2).tr (fun a o _ h => by
    by_cases z : a = x
    · subst z
      rw [upd_ne (Ne.symm ne), n1] at h
      cases h
    · rw [upd_ne z]; exact h)) upd_same⟩
theorem pe_weak {e : Expr} {t : TE} (h : PE X e t) : PE X e (fun σ H Q => ∃ P : V → Hp → Prop, t σ H P ∧ ∀ v H1, P v H1 → Q v H1) := ⟨fun pins s σ H Q I ⟨P, hp, k⟩ => thn (h.run pins s σ H P I hp) fun u s1 ⟨v, H1, I1, r, q⟩ => ⟨v, H1, I1, r, k v H1 q⟩⟩
theorem PS.imp' {s : Stmt} {t t' : TS} (h : PS X s t) (i : ∀ D σ H, t' D σ H → t D σ H) : PS X s t' := ⟨fun pins s σ H D I q => h.run pins s σ H D I (i D σ H q)⟩
theorem pt_weak {e : Expr} {t : L2.TT} (h : PT X e t) : PT X e (fun σ H Q => ∃ P : Bool → Hp → Prop, t σ H P ∧ ∀ v H1, P v H1 → Q v H1) := ⟨fun pins s σ H Q I ⟨P, hp, k⟩ => thn (h.run pins s σ H P I hp) fun b s1 ⟨H1, I1, q⟩ => ⟨H1, I1, k b H1 q⟩⟩
theorem ps_whileE {c : Expr} {body : List Stmt} {tc : L2.TT} {tb : TS} {pos : Pos} (hp : PassesOwn (model X.prog X.w) X.A X.env X.xe) (hc : PT X c tc) (hb : PSs X body tb) : PS X (.While c body [] pos) (tWhile (fun σ H Q => ∃ P : Bool → Hp → Prop, tc σ H P ∧ ∀ v H1, P v H1 → Q v H1) tb) := ps_while hp (pt_weak hc) hb
theorem x_while {c : L2.TT} {tb : TS} {D : Ends} {σ : L2.St} {H : Hp} (Pv : L2.St → Hp → Prop) (μ : L2.St → Hp → Nat) (h0 : Pv σ H)
    (hs : ∀ σ H, Pv σ H → c σ H fun b H1 => if b = true then tb { D with nx := fun σ' H' => Pv σ' H' ∧ μ σ' H' < μ σ H, ct := fun σ' H' => Pv σ' H' ∧ μ σ' H' < μ σ H, bk := D.nx } σ H1 else D.nx σ H1) : tWhile (fun σ H Q => ∃ P : Bool → Hp → Prop, c σ H P ∧ ∀ v H1, P v H1 → Q v H1) tb D σ H :=
  while_by Pv μ h0 (fun σ H h => ⟨_, hs σ H h, fun _ _ q => q⟩) (fun σ H Q Q' m ⟨P, q, k⟩ => ⟨P, q, fun b H1 z => m _ _ (k b H1 z)⟩)
def sFldE (K : PySem.W.Frag) (ta tv : TE) (f : Str) : TS := fun D σ H => tv σ H fun y H1 => ta σ H1 fun x H2 => ∃ a C dx fs gs, x = .ref a ∧ H2 a = some (.ins C dx fs) ∧ Cls K C ∧ NoAttr K C f ∧ fs.length < 1000 ∧ putF f y fs = gs ∧
  ∀ H', Ex [a] H2 H' → H' a = some (.ins C dx gs) → D.nx σ H'
theorem ps_fldE (K : PySem.W.Frag) {o value : Expr} {f : Str} {pos pos' : Pos} {ta tv : TE} (ha : PE X o ta) (hv : PE X value tv) (hs : swapsWith value (some (.Attribute o f pos')) pos.line X.env = pure false := by rfl) (h : X.K = K := by rfl) : PS X (.Assign [.Attribute o f pos'] value pos) (sFldE K ta tv f) :=
  h ▸ PS.imp' (ps_fld (pe_weak ha) (pe_weak hv) hs) fun D σ H q => ⟨_, q, fun y H1 q1 => ⟨_, q1, fun x H2 ⟨a, C, dx, fs, gs, e1, e2, c, n, l, e3, k⟩ => ⟨a, C, dx, fs, e1, e2, c, n, l, by subst e3; exact k _ (Ex.wr (by simp) (Ex.refl H2)) upd_same⟩⟩⟩
end
section
variable {K : PySem.W.Frag} {σ : L2.St} {H : Hp} {Q : VK} {C : Addr} {f : Str} {ta tv : TE} {D : Ends}
theorem x_make {sp : Sp} {dvs : List V} {E : XK} {t : TA} (k : t σ H fun vs H1 => ∀ x dx H', H1 x = none → Ex [] H1 H' → H' x = some (.ins C dx []) → sp (.ref x :: (vs ++ dvs)) H' (fun v H2 => v = .non ∧ Q (.ref x) H2) E) : tMakeE C sp dvs E t σ H Q := k
theorem x_fld (k : ta σ H fun x H1 => ∃ a C dx fs v, x = .ref a ∧ H1 a = some (.ins C dx fs) ∧ Cls K C ∧ NoAttr K C f ∧ fs.lookup f = some v ∧ Q v H1) : tFld K ta f σ H Q := k
theorem x_fldR {a dx : Addr} {fs : List (Str × V)} {v : V} {P : V → Prop} (h : H a = some (.ins C dx fs)) (c : Cls K C) (n : NoAttr K C f) (l : fs.lookup f = some v) (k : P v) : ∃ a' C dx fs v, V.ref a = .ref a' ∧ H a' = some (.ins C dx fs) ∧ Cls K C ∧ NoAttr K C f ∧ fs.lookup f = some v ∧ P v := ⟨a, C, dx, fs, v, rfl, h, c, n, l, k⟩
theorem x_sfld (k : tv σ H fun y H1 => ta σ H1 fun x H2 => ∃ a C dx fs gs, x = .ref a ∧ H2 a = some (.ins C dx fs) ∧ Cls K C ∧ NoAttr K C f ∧ fs.length < 1000 ∧ putF f y fs = gs ∧ ∀ H', Ex [a] H2 H' → H' a = some (.ins C dx gs) → D.nx σ H') : sFldE K ta tv f D σ H := k
theorem x_sfldR {a dx : Addr} {fs gs : List (Str × V)} {y : V} {P : Hp → Prop} (h : H a = some (.ins C dx fs)) (c : Cls K C) (n : NoAttr K C f) (l : fs.length < 1000) (e : putF f y fs = gs) (k : ∀ H', Ex [a] H H' → H' a = some (.ins C dx gs) → P H') :
    ∃ a' C dx fs gs, V.ref a = .ref a' ∧ H a' = some (.ins C dx fs) ∧ Cls K C ∧ NoAttr K C f ∧ fs.length < 1000 ∧ putF f y fs = gs ∧ ∀ H', Ex [a'] H H' → H' a' = some (.ins C dx gs) → P H' := ⟨a, C, dx, fs, gs, rfl, h, c, n, l, e, k⟩
theorem x_meth {m : Str} {sp : Sp} {dvs : List V} {E : XK} {t : TA} (k : ta σ H fun x H1 => ∃ a dx fs, x = .ref a ∧ H1 a = some (.ins C dx fs) ∧ fs.lookup m = none ∧ t σ H1 fun vs H2 => sp (x :: (vs ++ dvs)) H2 Q E) : tMeth C m sp dvs E ta t σ H Q := k
theorem x_methR {a dx : Addr} {m : Str} {fs : List (Str × V)} {P : Prop} (h : H a = some (.ins C dx fs)) (l : fs.lookup m = none) (k : P) : ∃ a' dx fs, V.ref a = .ref a' ∧ H a' = some (.ins C dx fs) ∧ fs.lookup m = none ∧ P := ⟨a, dx, fs, rfl, h, l, k⟩
theorem x_aug {i : Nat} {te : TE} {ti : TIp} {x : V} (h : σ[i]? = some (some x)) (k : te σ H fun y H1 => ti x y H1 fun z H2 => D.nx (σ.set i (some z)) H2) : tAug i te ti D σ H := ⟨x, h, k⟩
theorem x_ipI {f : Int → Int → Int} {i j : Int} (k : Q (.int (f i j)) H) : ipI f (.int i) (.int j) H Q := ⟨i, j, rfl, rfl, k⟩
theorem x_gcd {i j : Int} (k : Q (.int ((Nat.gcd i.natAbs j.natAbs : Nat) : Int)) H) : rGcd [.int i, .int j] H Q := ⟨i, j, rfl, k⟩
theorem inV_ints {ns : List Int} {i : Int} : inV (.int i) (ns.map V.int) = ns.contains i := by
  unfold inV
  rw [List.any_map]
  induction ns with
  | nil => rfl
  | cons n ns ih =>
    rw [List.any_cons, List.contains_cons, ih]
    congr 1
    show (n == i) = (i == n)
    exact Bool.beq_comm
theorem x_inT {ns : List Int} {a : Addr} {i : Int} {neg : Bool} (h : SqT K H a (ns.map V.int)) (k : Q (.bl (if neg then !ns.contains i else ns.contains i)) H) : rIn K neg (.int i) (.ref a) H Q := ⟨a, _, rfl, .inr h, rfl, by rw [List.all_map]; exact List.all_eq_true.mpr fun _ _ => rfl, by rw [inV_ints]; exact k⟩
end
theorem Ex.fresh {H H1 H2 : Hp} {x : Addr} (e1 : Ex [] H H1) (hx : H x = none) (e2 : Ex [x] H1 H2) : Ex [] H H2 := fun a o _ h => e2 a o (by
  intro z
  rw [List.mem_singleton] at z
  subst z
  rw [hx] at h
  cases h) (e1 a o (by simp) h)
theorem Ex.skip {M : List Addr} {H H1 H2 : Hp} {x : Addr} (e1 : Ex M H H1) (hx : H x = none) (e2 : Ex [x] H1 H2) : Ex M H H2 := fun a o m h => e2 a o (by
  intro z
  rw [List.mem_singleton] at z
  subst z
  rw [hx] at h
  cases h) (e1 a o m h)
theorem Ex.skip2 {b : Addr} {H H1 H2 : Hp} {x : Addr} (e1 : Ex [b] H H1) (hx : H x = none) (e2 : Ex [b, x] H1 H2) : Ex [b] H H2 := fun a o m h => e2 a o (by
  intro z
  rcases List.mem_cons.mp z with z | z
  · exact m (by rw [z]; exact List.mem_singleton.mpr rfl)
  · rw [List.mem_singleton] at z
    subst z
    rw [hx] at h
    cases h) (e1 a o m h)
theorem putF_nil {f : Str} {v : V} : putF f v [] = [(f, v)] := rfl
theorem putF_eq {f : Str} {v x : V} {r : List (Str × V)} : putF f v ((f, x) :: r) = (f, v) :: r := if_pos rfl
theorem putF_ne {f g : Str} {v x : V} {r s : List (Str × V)} (h : g ≠ f) (k : putF f v r = s) : putF f v ((g, x) :: r) = (g, x) :: s := by
  rw [← k]
  exact if_neg h
theorem natCast_toNat {i : Int} (h : 0 ≤ i) : ∃ n : Nat, i = n := ⟨i.toNat, by omega⟩
end BF
/-! ## Exceptions with fields -/
namespace BF
open PySem PySem.Spec PyProof.Rows L2
section
variable {X : Cx} {o e : Expr} {es : List Expr} {to te : TE} {ta : TA} {f : Str} {p p' pos : Pos}
def tOstE (K : PySem.W.Frag) (f : Str) (to te : TE) : TS := fun D σ H => te σ H fun y H1 => to σ H1 fun x H2 => ∃ a C : Addr, x = .ref a ∧ OexC K C ∧ PySem.W.findIn K (.ref C) f = some none ∧
  ((H2 a = some (exo a C none) ∧ ∀ dx H', H2 dx = none → dx ≠ a → Ex [a] H2 H' → H' a = some (exo a C (some dx)) → H' dx = some (exd dx [(f, y)]) → D.nx σ H') ∨
    ∃ (dx : Addr) (fs : List (Str × V)), H2 a = some (exo a C (some dx)) ∧ H2 dx = some (exd dx fs) ∧ fs.length ≤ 900 ∧ dx ≠ a ∧ ∀ H', Ex [dx] H2 H' → H' a = some (exo a C (some dx)) → H' dx = some (exd dx ((f, y) :: fs)) → D.nx σ H')
theorem ps_ostE (K : PySem.W.Frag) (ho : PE X o to) (he : PE X e te) (hs : swapsWith e (some (.Attribute o f p')) pos.line X.env = pure false := by rfl) (h : X.K = K := by rfl) : PS X (.Assign [.Attribute o f p'] e pos) (tOstE K f to te) := by
  subst h
  refine PS.imp' (ps_ost (pe_weak ho) (pe_weak he) hs) fun D σ H q => ⟨_, q, fun y H1 q1 => ⟨_, q1, fun x H2 ⟨a, C, e1, c, n, q2⟩ => ⟨a, C, e1, c, n, ?_⟩⟩⟩
  rcases q2 with ⟨ha, k⟩ | ⟨dx, fs, ha, hd, hl, ne, k⟩
  · exact .inl ⟨ha, fun dx n1 ne => k dx _ n1 ne (Ex.wr (by simp) (Ex.new n1)) upd_same (by rw [upd_ne ne]; exact upd_same)⟩
  · exact .inr ⟨dx, fs, ha, hd, hl, k _ (Ex.wr (by simp) (Ex.refl _)) (by rw [upd_ne (Ne.symm ne)]; exact ha) upd_same⟩
/-- what an exception's __init__ of n values keeps: its fields fs -/
def spEx (C : Addr) (n : Nat) (fs : List V → List (Str × V)) : Sp := fun vs H Q _ => ∃ a ws, vs = .ref a :: ws ∧ ws.length = n ∧ H a = some (exo a C none) ∧ ∀ d H', H d = none → d ≠ a → Ex [a] H H' → H' a = some (exo a C (some d)) → H' d = some (exd d (fs ws)) → Q .non H'
/-- a raised exception of the class at C with the fields fs, in what was H -/
def RaisedX (C : Addr) (fs : List (Str × V)) (H : Hp) (Q : XK) : Prop := ∀ d H', H d = none → Ex [] H H' → H' d = some (.xd fs) → Q (.ref C) (some d) H'
def tRs (C : Addr) (n : Nat) (fs : List V → List (Str × V)) (ta : TA) : L2.St → Hp → XK → Prop := fun σ H Q => ta σ H fun vs H1 => vs.length = n ∧ RaisedX C (fs vs) H1 Q
theorem x_rs {C : Addr} {n : Nat} {fs : List V → List (Str × V)} {σ : L2.St} {H : Hp} {Q : XK} (k : ta σ H fun vs H1 => vs.length = n ∧ RaisedX C (fs vs) H1 Q) : tRs C n fs ta σ H Q := k
theorem ex_fin {H1 H2 : Hp} {a d C : Addr} {fs : List (Str × V)} (n1 : H1 a = none) (n2 : H1 d = none) (ne : d ≠ a) (e : Ex [a] (upd H1 a (exo a C none)) H2) : Ex [] H1 (upd (del H2 a) d (.xd fs)) := fun b o _ h => by
  have b1 : b ≠ a := fun z => by subst z; rw [n1] at h; cases h
  have b2 : b ≠ d := fun z => by subst z; rw [n2] at h; cases h
  rw [upd_ne b2]
  have h3 := e b o (by simpa using b1) (by rw [upd_ne b1]; exact h)
  unfold del
  rw [if_neg b1]
  exact h3
section
variable {CX : CXT} {x : Str} {C fI : Addr} {k n : Nat} {fd : FuncData} {ps : List Str} {fs : List V → List (Str × V)}
theorem ex_mk {vs : List V} {H1 : Hp} {Q : XK} (hn : n ≤ 900) (hl : vs.length = n) (q : RaisedX C (fs vs) H1 Q) : vs.length ≤ 1000 ∧ ∀ a, H1 a = none → spEx C n fs (.ref a :: (vs ++ [])) (upd H1 a (exo a C none))
    (fun v H2 => v = .non ∧ ∃ (d : Addr) (gs : List (Str × V)), H2 a = some (exo a C (some d)) ∧ H2 d = some (exd d gs) ∧ H1 d = none ∧ Q (.ref C) (some d) (upd (del H2 a) d (.xd gs))) (fun _ _ _ => False) := by
  refine ⟨by omega, fun a ha => ⟨a, vs, by rw [List.append_nil], hl, upd_same, fun d H2 hd ne e h1 h2 => ⟨rfl, d, fs vs, h1, h2, ?_, ?_⟩⟩⟩
  · rw [upd_ne ne] at hd
    exact hd
  · rw [upd_ne ne] at hd
    exact q d _ hd (ex_fin ha hd ne e) upd_same
theorem pmk_ex (hn : n ≤ 900) (T : OexC X.K C) (iC : PySem.W.findIn X.K (.ref C) "__init__" = some (some (.ref fI))) (tI : PySem.W.typeIn X.K (.ref fI) = some (.type "function"))
    (F1 : FnOk X.prog X.w X.K X.mg X.base CX k fI fd ps (spEx C n fs)) (hr : Room (k + 1) X.A) (hb : Binds X.K fd ps []) (hx : Passes CX X (fun _ _ _ => False)) (hg : Gl X x) (hm : X.mg x = some (.ref C)) (ha : PA X (e :: es) ta)
    (hdb : (x == ("__debug__" : Str)) = false := by decide) (he : starEach (e :: es) X.env = (false, eval e X.env) :: starEach es X.env := by rfl) (hpl : (backTo pos (starEach es X.env)).any (·.1) = false := by rfl) :
    PMk X (.Call (.Name x p) (e :: es) [] pos) (tRs C n fs ta) := fun pins s σ H Q I h =>
  pmk_oex (dvs := []) T iC tI F1 hr hb .nil hx hg hm (pa_weak ha) hdb he hpl pins s σ H Q I ⟨_, h, fun vs H1 ⟨hl, q⟩ => ex_mk hn hl q⟩
theorem pmk_ex0 (T : OexC X.K C) (iC : PySem.W.findIn X.K (.ref C) "__init__" = some (some (.ref fI))) (tI : PySem.W.typeIn X.K (.ref fI) = some (.type "function"))
    (F1 : FnOk X.prog X.w X.K X.mg X.base CX k fI fd ps (spEx C 0 fs)) (hr : Room (k + 1) X.A) (hb : Binds X.K fd ps []) (hx : Passes CX X (fun _ _ _ => False)) (hg : Gl X x) (hm : X.mg x = some (.ref C)) (hdb : (x == ("__debug__" : Str)) = false := by decide) :
    PMk X (.Call (.Name x p) [] [] pos) (fun _ H Q => RaisedX C (fs []) H Q) := fun pins s σ H Q I h =>
  pmk_oex0 T iC tI F1 hr hb hx hg hm hdb pins s σ H Q I (ex_mk (vs := []) (by decide) rfl h)
end
end
section
variable {K : PySem.W.Frag} {σ : L2.St} {H : Hp} {Q : VK} {f : Str} {to te : TE} {D : Ends} {C : Addr}
theorem x_ost (k : te σ H fun y H1 => to σ H1 fun x H2 => ∃ a C : Addr, x = .ref a ∧ OexC K C ∧ PySem.W.findIn K (.ref C) f = some none ∧
  ((H2 a = some (exo a C none) ∧ ∀ dx H', H2 dx = none → dx ≠ a → Ex [a] H2 H' → H' a = some (exo a C (some dx)) → H' dx = some (exd dx [(f, y)]) → D.nx σ H') ∨
    ∃ (dx : Addr) (fs : List (Str × V)), H2 a = some (exo a C (some dx)) ∧ H2 dx = some (exd dx fs) ∧ fs.length ≤ 900 ∧ dx ≠ a ∧ ∀ H', Ex [dx] H2 H' → H' a = some (exo a C (some dx)) → H' dx = some (exd dx ((f, y) :: fs)) → D.nx σ H')) : tOstE K f to te D σ H := k
theorem x_ost1 {a : Addr} {y : V} {P : Hp → Prop} (h : H a = some (exo a C none)) (c : OexC K C) (n : PySem.W.findIn K (.ref C) f = some none) (k : ∀ dx H', H dx = none → dx ≠ a → Ex [a] H H' → H' a = some (exo a C (some dx)) → H' dx = some (exd dx [(f, y)]) → P H') :
    ∃ a' C : Addr, V.ref a = .ref a' ∧ OexC K C ∧ PySem.W.findIn K (.ref C) f = some none ∧
  ((H a' = some (exo a' C none) ∧ ∀ dx H', H dx = none → dx ≠ a' → Ex [a'] H H' → H' a' = some (exo a' C (some dx)) → H' dx = some (exd dx [(f, y)]) → P H') ∨
    ∃ (dx : Addr) (fs : List (Str × V)), H a' = some (exo a' C (some dx)) ∧ H dx = some (exd dx fs) ∧ fs.length ≤ 900 ∧ dx ≠ a' ∧ ∀ H', Ex [dx] H H' → H' a' = some (exo a' C (some dx)) → H' dx = some (exd dx ((f, y) :: fs)) → P H') := ⟨a, C, rfl, c, n, .inl ⟨h, k⟩⟩
theorem x_ost2 {a dx : Addr} {y : V} {fs : List (Str × V)} {P : Hp → Prop} (h : H a = some (exo a C (some dx))) (hd : H dx = some (exd dx fs)) (hl : fs.length ≤ 900) (ne : dx ≠ a) (c : OexC K C) (n : PySem.W.findIn K (.ref C) f = some none)
    (k : ∀ H', Ex [dx] H H' → H' a = some (exo a C (some dx)) → H' dx = some (exd dx ((f, y) :: fs)) → P H') :
    ∃ a' C : Addr, V.ref a = .ref a' ∧ OexC K C ∧ PySem.W.findIn K (.ref C) f = some none ∧
  ((H a' = some (exo a' C none) ∧ ∀ dx H', H dx = none → dx ≠ a' → Ex [a'] H H' → H' a' = some (exo a' C (some dx)) → H' dx = some (exd dx [(f, y)]) → P H') ∨
    ∃ (dx : Addr) (fs : List (Str × V)), H a' = some (exo a' C (some dx)) ∧ H dx = some (exd dx fs) ∧ fs.length ≤ 900 ∧ dx ≠ a' ∧ ∀ H', Ex [dx] H H' → H' a' = some (exo a' C (some dx)) → H' dx = some (exd dx ((f, y) :: fs)) → P H') := ⟨a, C, rfl, c, n, .inr ⟨dx, fs, h, hd, hl, ne, k⟩⟩
theorem x_chain {r r' : R2} {ta tb tc : TE} (k : ta σ H fun x H1 => tb σ H1 fun y H2 => r x y H2 fun z H3 => ∃ k, z = .bl k ∧ (if k = true then tc σ H3 fun w' H4 => r' y w' H4 Q else Q (.bl false) H3)) : tChain r r' ta tb tc σ H Q := k
end
end BF
/-! ## try with two named clauses, both of which take: what is caught is told by wAs2 -/
namespace BF
open PySem PySem.Spec PyProof.Rows L2
abbrev ClS := Addr → Value → Option Addr → TS
/-- the ends of a suite behind which the slot i is unbound -/
def unEnd (i : Nat) (D : Ends) : Ends := { nx := fun t J => D.nx (t.set i none) J, rt := D.rt, bk := fun t J => D.bk (t.set i none) J, ct := fun t J => D.ct (t.set i none) J }
def wAs2 (K : PySem.W.Frag) (c c' : Value) (i : Nat) (ts ts' : ClS) (D : Ends) : WX := fun cls d σ H =>
  ∃ b, PySem.W.exmOne K cls c = some b ∧ (b = true → ∀ a, H a = none → ts a cls d (unEnd i D) (σ.set i (some (.ref a))) H) ∧
    (b = false → PySem.W.exmOne K cls c' = some true ∧ ∀ a, H a = none → ts' a cls d (unEnd i D) (σ.set i (some (.ref a))) H)
section
variable {X : Cx} {pins : List (Addr × Obj)} {σ : L2.St} {H : Hp} {D : Ends}
/-- a raised object is none of the frames -/
theorem fly_out {B h : Heap} {l : List Env} {a : Addr} {Z : Obj → Prop} (f : HandSPX.FlyingZ B l a Z h) : a ∉ frs l ∧ ∃ o vs, h.get? a = some o ∧ Z o ∧ o.data = .fields vs := by
  obtain ⟨o, vs, g, z, fd⟩ := f.there
  refine ⟨fun hm => ?_, o, vs, g, z, fd⟩
  obtain ⟨_, o2, g2, no⟩ := f.2.2.1.mem hm
  cases g.symm.trans g2
  exact no _ fd
theorem fly_suite {sI t : Shared} {B h : Heap} {a : Addr} {cls : Value} {d : Option Addr} (hs : X.stack = X.env :: X.outer) (hf : X.env.frame = some X.env.locals) (J : Inv X pins σ H sI) (nb : ∀ b o, sI.heap.get? b = some o → b ∉ frs X.stack → B.get? b = some o)
    (f : HandSPX.FlyingZ B (X.env :: X.outer) a (Zc cls d) h) (up : sI.heap.UpToSlots h) (na : H a = none) (os : t.os = sI.os) (ag : AllBare t.gens) :
    Inv X pins σ H { t with heap := h } ∧ ∃ o vs, h.get? a = some o ∧ Zc cls d o ∧ o.data = .fields vs ∧ Inv (X.suite a ((a, o) :: (X.pn ++ pins))) [] σ H { t with heap := h } := by
  have J1 : Inv X pins σ H { t with heap := h } := Inv.landed J nb f.1 up os ag
  obtain ⟨out, o, vs, g, z, fd⟩ := fly_out f
  have n1 : a ≠ X.env.locals := fun q => out (by rw [q]; exact List.mem_filterMap.mpr ⟨X.env, List.mem_cons_self, hf⟩)
  have n2 : a ∉ X.fs := fun q => by
    obtain ⟨e, m, k⟩ := List.mem_filterMap.mp q
    exact out (List.mem_filterMap.mpr ⟨e, List.mem_cons_of_mem _ m, k⟩)
  exact ⟨J1, o, vs, g, z, fd, J1.suite g fd na n1 n2⟩
theorem clause_as {sI t : Shared} {B h : Heap} {a : Addr} {cls : Value} {d : Option Addr} {x n : Str} {c : Value} {i : Nat} {b : Bool} {b₀ : Stmt} {suite : List Stmt} {np pos' : Pos} {rest : List ExceptHandler} {ts : ClS} (hs : X.stack = X.env :: X.outer) (hf : X.env.frame = some X.env.locals)
    (hN : X.N.Nodup) (hi : X.N[i]? = some n) (hln : X.env.kindOf n = some .local) (hc : Names X x c)
    (hsu : ∀ (a : Addr) (oe : Obj) (cls : Value) (d : Option Addr) (pn : List (Addr × Obj)), Zc cls d oe → (∃ vs, oe.data = .fields vs) → PSs (X.suite a ((a, oe) :: pn)) (b₀ :: suite) (ts a cls d))
    (J : Inv X pins σ H sI) (nb : ∀ b o, sI.heap.get? b = some o → b ∉ frs X.stack → B.get? b = some o)
    (f : HandSPX.FlyingZ B (X.env :: X.outer) a (Zc cls d) h) (up : sI.heap.UpToSlots h) (na : H a = none) (os : t.os = sI.os) (ag : AllBare t.gens) (hx : PySem.W.exmOne X.K cls c = some b)
    (yes : b = true → ts a cls d (unEnd i D) (σ.set i (some (.ref a))) H) (no : b = false → wpAny (model X.prog X.w) X.A (handleBy (.ref a) X.env rest) (SP X pins D) X.xe { t with heap := h }) :
    wpAny (model X.prog X.w) X.A (handleBy (.ref a) X.env (.ExceptHandler (some (.Name x np)) (some n) (b₀ :: suite) pos' :: rest)) (SP X pins D) X.xe { t with heap := h } := by
  obtain ⟨J1, o, vs, g, z, fd, S⟩ := fly_suite hs hf J nb f up na os ag
  refine wpAny_handleBy_cons (codeAny_handlers_test ?_) (by intro q; cases q)
  have lk : PySem.W.Looks (model X.prog X.w) h (typeOf (.ref a)) cls := fun _ _ _ _ k q => wpAny_typeOf_ref (k _ _ g) (by rw [z.1]; exact q)
  have name : ∀ {R E : Value → Shared → Prop}, R c { t with heap := h } → wpAny (model X.prog X.w) (X.A.mark (some (.ref a))) (eval (.Name x np) X.env) R E { t with heap := h } := fun {R E} q => by
    rcases hc with ⟨gl, dbg, m | ⟨m, v, ne⟩⟩
    · exact ld_glob S gl m q dbg
    · exact ld_blt S gl m v q ne dbg
  refine name (PySem.W.Looks.here (PySem.W.exm_one (M := model X.prog X.w) J1.kIn lk hx) ?_)
  cases b with
  | false => exact no rfl
  | true =>
    refine codeAny_handlers_suite_as (HandSPX.lands_againZ f fun h2 f2 up2 => ?_)
    obtain ⟨_, o2, vs2, g2, z2, fd2, S2⟩ := fly_suite (t := t) hs hf J nb f2 (up.trans up2) na os ag
    refine store_ok (X := X.suite a ((a, o2) :: (X.pn ++ pins))) (v := .ref a) S2 hN hi (.inl hln) rfl (fun u U => ?_) (.inr hln)
    refine wpAny_mono ((hsu a o2 cls d (X.pn ++ pins) z2 ⟨_, fd2⟩).run [] u _ H _ U (yes rfl)) (fun fl u2 r => ?_) (fun _ _ w => w.elim)
    have fin : ∀ {τ : L2.St} {G : Hp} {R : Shared → Prop}, Inv (X.suite a ((a, o2) :: (X.pn ++ pins))) [] τ G u2 → (∀ u3, Inv X pins (τ.set i none) G u3 → R u3) →
        wpAny (model X.prog X.w) X.A (do bindName X.env n .none; unbindBehindTheSuite X.env n pos') (fun _ u3 => R u3) X.xe u2 := fun V k => gone_ok (Inv.unsuite V J.ok) hN hi hln k
    cases fl with
    | ret w =>
      obtain ⟨v, τ, G, V, rv, q⟩ := r
      exact fin V fun _ V3 => ⟨v, _, _, V3, rv, q⟩
    | next =>
      obtain ⟨τ, G, V, q⟩ := r
      exact fin V fun _ V3 => ⟨_, _, V3, q⟩
    | brk =>
      obtain ⟨τ, G, V, q⟩ := r
      exact fin V fun _ V3 => ⟨_, _, V3, q⟩
    | cont =>
      obtain ⟨τ, G, V, q⟩ := r
      exact fin V fun _ V3 => ⟨_, _, V3, q⟩
/-- try: body, except x as n: suite, except x' as n: suite' -/
theorem ps_try_as2 {x x' n : Str} {c c' : Value} {i : Nat} {body suite suite' : List Stmt} {b₀ b₁ : Stmt} {np np' pos pos1 pos2 : Pos} {tb : WX → TS} {ts ts' : ClS} (hs : X.stack = X.env :: X.outer) (hf : X.env.frame = some X.env.locals)
    (hN : X.N.Nodup) (hi : X.N[i]? = some n) (hln : X.env.kindOf n = some .local) (hc : Names X x c) (hc' : Names X x' c')
    (hb : ∀ (W : WX) (pn : List (Addr × Obj)) (xe : Value → Shared → Prop), Takes (X.tr pn xe) W → PassesOwn (model X.prog X.w) X.A X.env xe → PSs (X.tr pn xe) body (tb W))
    (hsu : ∀ (a : Addr) (oe : Obj) (cls : Value) (d : Option Addr) (pn : List (Addr × Obj)), Zc cls d oe → (∃ vs, oe.data = .fields vs) → PSs (X.suite a ((a, oe) :: pn)) (b₀ :: suite) (ts a cls d))
    (hsu' : ∀ (a : Addr) (oe : Obj) (cls : Value) (d : Option Addr) (pn : List (Addr × Obj)), Zc cls d oe → (∃ vs, oe.data = .fields vs) → PSs (X.suite a ((a, oe) :: pn)) (b₁ :: suite') (ts' a cls d)) :
    PS X (.Try body [.ExceptHandler (some (.Name x np)) (some n) (b₀ :: suite) pos1, .ExceptHandler (some (.Name x' np')) (some n) (b₁ :: suite') pos2] [] [] pos) (fun D σ H => tb (wAs2 X.K c c' i ts ts' D) D σ H) := by
  refine ⟨fun pins s σ H D I q => wpAny_Try_except ?_⟩
  refine wpAny_mono ((hb (wAs2 X.K c c' i ts ts' D) (X.pn ++ pins) (fun e s₁ => wpAny (model X.prog X.w) X.A (noteFrame e X.env) (fun _ s₂ => wpAny (model X.prog X.w) X.A (setFlight e none) (fun _ s₃ =>
    wpAny (model X.prog X.w) X.A (handleBy e X.env [.ExceptHandler (some (.Name x np)) (some n) (b₀ :: suite) pos1, .ExceptHandler (some (.Name x' np')) (some n) (b₁ :: suite') pos2]) (SP X pins D) X.xe s₃) X.xe s₂) X.xe s₁) ?_ PassesOwn.looking).run [] s σ H D (I.toTry _) q) ?_ (fun _ _ r => r)
  · rintro u t ⟨a, B, sI, pins1, τ, G, cls, d, rfl, J, nb, up, sky, na, os, ag, b, hx, yes, no⟩
    have J := J.ofTry I.ok
    refine Sky.land (Z := Zc cls d) (B := B) (a := a) Zc.steady (by rw [I.ok.frames, hs]) hf (by rw [← hs]; exact sky) fun h f up' => ?_
    refine clause_as (t := t) hs hf hN hi hln hc hsu J nb f (up.trans up') na os ag hx (fun e => yes e a na) fun e => ?_
    obtain ⟨hx', k⟩ := no e
    exact clause_as (t := t) hs hf hN hi hln hc' hsu' J nb f (up.trans up') na os ag hx' (fun _ => k a na) nofun
  · intro fl t r
    cases fl with
    | ret v =>
      obtain ⟨w, τ, G, V, rv, k⟩ := r
      exact ⟨w, τ, G, V.ofTry I.ok, rv, k⟩
    | next =>
      obtain ⟨τ, G, V, k⟩ := r
      exact wpAny_execs_nil ⟨τ, G, V.ofTry I.ok, k⟩
    | brk =>
      obtain ⟨τ, G, V, k⟩ := r
      exact ⟨τ, G, V.ofTry I.ok, k⟩
    | cont =>
      obtain ⟨τ, G, V, k⟩ := r
      exact ⟨τ, G, V.ofTry I.ok, k⟩
end
end BF
/-! ## what stays where a lambda is made -/
namespace BF
open PySem PySem.Spec PyProof.Rows L2
section
variable {K : PySem.W.Frag} {H H1 : Hp} {a : Addr}
theorem N_at {o : HO} (e : LamX.ExtN H H1) (h : H a = some o) (n : ∀ ps, o ≠ .tbl ps) : H1 a = some o := e a o h n
theorem rd_N {u : HO} (e : LamX.ExtN H H1) (n : ∀ ps, u ≠ .tbl ps) (h : Rd H a u) : Rd H1 a u := by
  rcases h with h | ⟨o, h⟩
  · exact .inl (e _ _ h n)
  · exact .inr ⟨o, e _ _ h nofun⟩
theorem sql_N {xs : List V} (e : LamX.ExtN H H1) (h : SqL K H a xs) : SqL K H1 a xs := by
  rcases h with h | h
  · exact .inl (rd_N e nofun h)
  · exact .inr h
theorem sqt_N {xs : List V} (e : LamX.ExtN H H1) (h : SqT K H a xs) : SqT K H1 a xs := by
  rcases h with h | h
  · exact .inl (rd_N e nofun h)
  · exact .inr h
mutual
theorem Dat.N {M : List Addr} (e : LamX.ExtN H H1) : ∀ {v : V} {d : DV}, Dat K M H v d → Dat K M H1 v d
  | _, _, .non => .non
  | _, _, .bl b => .bl b
  | _, _, .int i => .int i
  | _, _, .str x => .str x
  | _, _, .lst h n l => .lst (sql_N e h) n (DatL.N e l)
  | _, _, .tup h n l => .tup (sqt_N e h) n (DatL.N e l)
theorem DatL.N {M : List Addr} (e : LamX.ExtN H H1) : ∀ {vs : List V} {ds : List DV}, DatL K M H vs ds → DatL K M H1 vs ds
  | _, _, .nil => .nil
  | _, _, .cons h l => .cons (Dat.N e h) (DatL.N e l)
end
/-- items that are data with P -/
def OD (K : PySem.W.Frag) (M : List Addr) (H : Hp) (P : DV → Prop) (xs : List V) : Prop := ∀ v ∈ xs, ∃ d, Dat K M H v d ∧ Deep 1 d ∧ P d
theorem OD.nil {M : List Addr} {P : DV → Prop} : OD K M H P [] := fun _ h => nomatch h
theorem OD.cons {M : List Addr} {P : DV → Prop} {v : V} {xs : List V} {d : DV} (h : Dat K M H v d) (dp : Deep 1 d) (p : P d) (k : OD K M H P xs) : OD K M H P (v :: xs) := fun w hw => by
  rcases List.mem_cons.mp hw with rfl | hw
  · exact ⟨d, h, dp, p⟩
  · exact k w hw
theorem OD.app {M : List Addr} {P : DV → Prop} {xs ys : List V} (h : OD K M H P xs) (k : OD K M H P ys) : OD K M H P (xs ++ ys) := fun w hw => (List.mem_append.mp hw).elim (h w) (k w)
theorem OD.get {M : List Addr} {P : DV → Prop} {xs : List V} {i : Nat} {v : V} (h : OD K M H P xs) (e : xs[i]? = some v) : ∃ d, Dat K M H v d ∧ Deep 1 d ∧ P d := h v (List.mem_of_getElem? e)
theorem OD.ex {M M' : List Addr} {P : DV → Prop} {xs : List V} (h : OD K M H P xs) (e : Ex M' H H1) (s : ∀ x ∈ M', x ∈ M) : OD K M H1 P xs := fun v hv => by
  obtain ⟨d, h1, h2, h3⟩ := h v hv
  exact ⟨d, h1.ex e s, h2, h3⟩
theorem OD.imp {M : List Addr} {P P' : DV → Prop} {xs : List V} (h : OD K M H P xs) (k : ∀ d, P d → P' d) : OD K M H P' xs := fun v hv => by
  obtain ⟨d, h1, h2, h3⟩ := h v hv
  exact ⟨d, h1, h2, k d h3⟩
/-- the tables stay where one list alone may change -/
theorem tabs_ex {T : List (Addr × Str)} {b : Addr} {xs : List V} (hb : H b = some (.lst xs)) (e : Ex [b] H H1) (t : LamX.Tabs T H) : LamX.Tabs T H1 := fun p hp => by
  obtain ⟨ps, h1, h2, h3⟩ := t p hp
  have n : ∀ {c : Addr} {o : HO}, H c = some o → o ≠ .lst xs → c ∉ [b] := fun {c o} hc hne z => by
    rw [List.mem_singleton.mp z, hb] at hc
    exact hne (Option.some.inj hc).symm
  refine ⟨ps, e _ _ (n h1 nofun) h1, h2, fun pos cv hc => ?_⟩
  obtain ⟨c, e1, e2⟩ := h3 pos cv hc
  exact ⟨c, e1, e _ _ (n e2 (by unfold LamX.CodeO; exact nofun)) e2⟩
theorem tabs_ex0 {T : List (Addr × Str)} (e : Ex [] H H1) (t : LamX.Tabs T H) : LamX.Tabs T H1 := t.ext fun b o h => e b o (by simp) h
end
end BF
/-! ## What a head tells of classes of exceptions and of written tables -/
namespace BF
open PySem PySem.Spec PyProof.Rows L2
def exccB (K : PySem.W.Frag) (x : Str) : Bool :=
  decide (PySem.W.findIn K (.ref (He.ga K x)) "__getattribute__" = some (some (.builtin "BaseException.__getattribute__"))) && (decide (PySem.W.findIn K (.ref (He.ga K x)) "__getattr__" = some none) &&
  (decide (PySem.W.subIn K (.ref (He.ga K x)) (.type "BaseException") = some true) && (PySem.W.hasDictIn K (He.ga K x) && (decide (PySem.W.findIn K (.ref (He.ga K x)) "__class__" = some (some (.builtin "object.__class__"))) &&
  (decide (PySem.W.specialIn K (.builtin "object.__class__") "__get__" = some (some (.builtin "getset_descriptor.__get__"))) && (decide (PySem.W.takesIn K (.builtin "object.__class__") = some true) && decide (PySem.W.mroIn K (He.ga K x) (.type "object") = some true)))))))
theorem exccB_ok {K : PySem.W.Frag} {x : Str} (h : exccB K x = true) : ExcC K (He.ga K x) := by
  unfold exccB at h
  simp only [Bool.and_eq_true, decide_eq_true_eq] at h
  exact ⟨h.1, h.2.1, h.2.2.1, h.2.2.2.1, h.2.2.2.2.1, h.2.2.2.2.2.1, h.2.2.2.2.2.2.1, h.2.2.2.2.2.2.2⟩
def kitsB (K : PySem.W.Frag) (x y : Str) (b : Bool) : Bool := decide (PySem.W.kitOne K (.ref (He.ga K x)) (.ref (He.ga K y)) = some b)
theorem kitsB_ok {K : PySem.W.Frag} {x y : Str} {b : Bool} (h : kitsB K x y b = true) : PySem.W.kitOne K (.ref (He.ga K x)) (.ref (He.ga K y)) = some b := of_decide_eq_true h
/-- the written table x holds v at k -/
theorem kdct_of {K : PySem.W.Frag} {w : World} {x k : Str} {v : He.Dv} {kvs : List (Str × He.Dv)} (hd : ∃ es n, KDict K w (He.ga K x) es n) (h : He.valsB K (He.ga K x) kvs = true) (hm : (k, v) ∈ kvs) : KDct K w (He.ga K x) k (v.v K) := by
  obtain ⟨es, n, D⟩ := hd
  obtain ⟨u, e, r⟩ := He.valsB_ok h hm
  exact ⟨es, n, u, D.at_, D.lit, e, r⟩
/-- what is seen piece by piece is seen at once -/
theorem ob_of {S : Type} {X : Option S} {ob : S → He.AlX} {fn : List He.DefD} {ts : List He.Tab} {w : World} {vs : List He.FnW} {tv : List (Option (List (Option (Str × Int))))}
    (ev : vs = fn.map He.DefD.val) (et : tv = ts.map fun t => some (He.keysIn w.params t.2)) (h : X.map (fun x => ((ob x).1.1.1, (ob x).1.1.2, (ob x).1.2, (ob x).2)) = some (true, vs, tv, true)) : X.map ob = some (He.valX fn ts w) := by
  cases X with
  | none => cases h
  | some x =>
    have h := Option.some.inj h
    simp only [Prod.mk.injEq] at h
    obtain ⟨h3, h4, h5, h6⟩ := h
    refine congrArg some (Prod.ext (Prod.ext (Prod.ext h3 ?_) ?_) h6)
    · exact h4.trans ev
    · exact h5.trans et
theorem runEq_of {r : PySem.W.OpenRow} {q : Program} {n : Nat} {fa : List He.Fa} {fn : List He.DefD} {ts : List He.Tab} {tf : List He.Defn} {ex : PySem.W.Frag → Bool} {ob : PySem.W.SharedT → He.AlX} {M : Nat} {loose : List PySem.Str} {w : World}
    (hA : (HandSHeadRun.wholeF (fun p => HandSHeadRun.stepQ (HandSHeadRun.denQ HandSHeadRun.tabQ) p w) HandSHeadRun.fenceQ M r.prog).map (fun x => (HandSHeadRun.looksF r.prog x.1.heap x.2.abs, HandSHeadRun.seenQ q loose (PySem.importedModules r.prog.main.body) (fun s => PySem.W.xlAt q [] s && PySem.W.recOk r.toRowW.records s) x.2.abs)) = some (true, PySem.W.openGood q loose))
    (hB : (HandSHeadRun.wholeF (fun p => HandSHeadRun.stepQ (HandSHeadRun.denQ HandSHeadRun.tabQ) p w) HandSHeadRun.fenceQ M r.prog).map (fun x => ob x.2) = some (He.valX fn ts w)) : HandSHeadRun.RunEqI r q (He.hookX n fa fn ts tf ex) ob M loose w := by
  unfold HandSHeadRun.RunEqI
  generalize HandSHeadRun.wholeF (fun p => HandSHeadRun.stepQ (HandSHeadRun.denQ HandSHeadRun.tabQ) p w) HandSHeadRun.fenceQ M r.prog = X at hA hB ⊢
  cases X with
  | none => cases hA
  | some x =>
    have hA := Option.some.inj hA
    have hB := Option.some.inj hB
    obtain ⟨h1, h2⟩ := Prod.mk.inj hA
    exact congrArg some (Prod.ext h1 (Prod.ext h2 hB))
end BF
/-! ## A head that tells of the statics' table too -/
namespace L2
open PySem PySem.Spec PyProof.Rows
/-- the statics' table of the head: it says nothing of a limit of digits -/
def ndgB (K : PySem.W.Frag) : Bool := match K.lookup cStatics with
  | some ⟨_, _, .dict es _, _⟩ => (es.all fun e => match e.key with
    | .str _ _ => true
    | _ => false) && (nsFind es "sys.int_max_str_digits").isNone
  | _ => false
theorem ndgB_ok {K : PySem.W.Frag} {h : Heap} (c : ndgB K = true) (X : K.In h) : h.NoDigits := by
  unfold ndgB at c
  cases q : K.lookup cStatics with
  | none =>
    rw [q] at c
    cases c
  | some o =>
    obtain ⟨oc, od, dt, sl⟩ := o
    rw [q] at c
    cases dt with
    | dict es n =>
      have c2 : ((es.all fun e => match e.key with
        | .str _ _ => true
        | _ => false) && (nsFind es "sys.int_max_str_digits").isNone) = true := c
      have e := X _ _ q
      refine Heap.noDigits_of_ok (h := h) ?_
      unfold Heap.noDigitsOk Heap.isNs Heap.nsMap
      rw [e]
      exact c2
    | _ => cases c
end L2
namespace BF
open PySem PySem.W PySem.Spec PyProof.Rows L2
def asY (n : Nat) (g : Addr → Option Obj) : List Addr := He.asD g n ++ [cStatics]
def frY (n : Nat) (g : Addr → Option Obj) : PySem.W.Frag := He.frT g (asY n g)
section
variable {n : Nat} {fa : List He.Fa} {fn : List He.DefD} {ts : List He.Tab} {tf : List He.Defn} {ex : PySem.W.Frag → Bool}
def obsY (n : Nat) (fa : List He.Fa) (fn : List He.DefD) (ts : List He.Tab) (tf : List He.Defn) (ex : PySem.W.Frag → Bool) (g : Addr → Option Obj) : He.AlX :=
  (He.obsT fa fn ts (frY n g), ex (frY n g) && He.tabsB g tf (frY n g))
theorem saysY_of {w : World} {h : Heap} (e : obsY n fa fn ts tf ex h.get? = He.valX fn ts w) : He.SaysX fa fn ts tf ex w h (frY n h.get?) := by
  obtain ⟨e1, e2⟩ := Prod.mk.inj e
  rw [Bool.and_eq_true] at e2
  have tb : ∀ p ∈ tf, PySem.W.codeHdIn (frY n h.get?) (He.cT (frY n h.get?) p).1 (He.cT (frY n h.get?) p).2 = true ∧ ∃ o, h.get? (He.cT (frY n h.get?) p).2 = some o ∧ He.emptyTab o = true := by
    intro p hp
    have a := List.all_eq_true.mp e2.2 p hp
    rw [Bool.and_eq_true] at a
    cases q : h.get? (He.cT (frY n h.get?) p).2 with
    | none =>
      rw [q] at a
      exact absurd a.2 nofun
    | some o =>
      rw [q] at a
      exact ⟨a.1, o, rfl, a.2⟩
  constructor
  · exact e1
  · exact e2.1
  · exact fun p hp => (tb p hp).1
  · intro p hp
    obtain ⟨_, o, q, z⟩ := tb p hp
    exact He.frT_none q z
  · intro p hp
    obtain ⟨_, o, q, z⟩ := tb p hp
    rw [q, He.emptyTab_eq z]
def hookY (n : Nat) (fa : List He.Fa) (fn : List He.DefD) (ts : List He.Tab) (tf : List He.Defn) (ex : PySem.W.Frag → Bool) : PySem.W.Hook where
  α := He.AlX
  obs s := obsY n fa fn ts tf ex s.heap.get?
  val w := He.valX fn ts w
  says w h := ∃ K : PySem.W.Frag, K.In h ∧ He.SaysX fa fn ts tf ex w h K
  of _ _ e := ⟨_, He.frT_in, saysY_of e⟩
  keeps _ _ _ := by
    rintro ⟨K, hK, c⟩ k
    exact ⟨K, PySem.W.Frag.In.keeps hK k, c.t, c.more, c.hd, c.out, fun p hp => k _ _ (c.empty p hp)⟩
theorem obsY_eq {g : Addr → Option Obj} {s : Shared} (h : ∀ a, g a = s.heap.get? a) : obsY n fa fn ts tf ex g = (hookY n fa fn ts tf ex).obs s := by
  cases (funext h : g = s.heap.get?)
  rfl
end
end BF
/-! ## The text by places, what the head tells, the run -/
namespace BF
open PySem PySem.Spec PyProof.Rows L2
def top (i : Nat) : Stmt := PySem.Challenge.pw_borderflow_k01_ratios_and_words.main.body.getD i (.Pass ⟨0, 0, 0, 0⟩)
abbrev s_InvalidNumber___init__ : Stmt := inClass (top 3) 0
abbrev s_TooMany___init__ : Stmt := inClass (top 4) 0
abbrev s_Ratio___init__ : Stmt := inClass (top 7) 0
abbrev s_Ratio___eq__ : Stmt := inClass (top 7) 1
abbrev s_Ratio___mul__ : Stmt := inClass (top 7) 2
abbrev s_Ratio___invert__ : Stmt := inClass (top 7) 3
abbrev s_Ratio___pow__ : Stmt := inClass (top 7) 4
abbrev s_Ratio_raised : Stmt := inClass (top 7) 5
abbrev s_Ratio_power : Stmt := inClass (top 7) 6
abbrev s_Ratio___str__ : Stmt := inClass (top 7) 7
abbrev s_Ratio___repr__ : Stmt := inClass (top 7) 8
abbrev s_count_ratio : Stmt := top 8
abbrev s_power_of : Stmt := top 9
abbrev s_is_whole : Stmt := top 10
abbrev s__times_divided : Stmt := top 11
abbrev s_is_number : Stmt := top 16
abbrev s_is_word : Stmt := top 17
abbrev s_word_index : Stmt := top 18
abbrev s_word_at : Stmt := top 19
abbrev s_digits : Stmt := top 20
abbrev s_all_words : Stmt := top 21
abbrev s__law_bag : Stmt := top 23
abbrev s__law_draw : Stmt := top 24
abbrev s__law_of : Stmt := top 25
abbrev s__law_like : Stmt := top 26
abbrev s__law_fault : Stmt := top 27
abbrev s__law_ask : Stmt := top 28
abbrev s__law_wrong : Stmt := top 29
abbrev s__law_primes : Stmt := top 30
abbrev s__law_number : Stmt := top 31
abbrev s__law_worth : Stmt := top 32
abbrev s__law_ratio_so : Stmt := top 33
abbrev s__law_sum : Stmt := top 34
abbrev s__law_drawn_ratio : Stmt := top 35
abbrev s__law_ratios : Stmt := top 36
abbrev s__law_refused_ratios : Stmt := top 37
abbrev s__law_listed : Stmt := top 38
abbrev s__law_words : Stmt := top 39
abbrev s__law_refused_words : Stmt := top 40
abbrev s__law_judged : Stmt := top 41
abbrev s__law_more_words : Stmt := top 42
abbrev s_law : Stmt := top 43
def d_InvalidNumber___init__ : He.DefD := ⟨("InvalidNumber", some "__init__"), "__init__", "InvalidNumber.__init__", defArgs s_InvalidNumber___init__, defBody s_InvalidNumber___init__, defScope s_InvalidNumber___init__, [], []⟩
def d_TooMany___init__ : He.DefD := ⟨("TooMany", some "__init__"), "__init__", "TooMany.__init__", defArgs s_TooMany___init__, defBody s_TooMany___init__, defScope s_TooMany___init__, [], []⟩
def d_Ratio___init__ : He.DefD := ⟨("Ratio", some "__init__"), "__init__", "Ratio.__init__", defArgs s_Ratio___init__, defBody s_Ratio___init__, defScope s_Ratio___init__, [.int 1], []⟩
def d_Ratio___eq__ : He.DefD := ⟨("Ratio", some "__eq__"), "__eq__", "Ratio.__eq__", defArgs s_Ratio___eq__, defBody s_Ratio___eq__, defScope s_Ratio___eq__, [], []⟩
def d_Ratio___mul__ : He.DefD := ⟨("Ratio", some "__mul__"), "__mul__", "Ratio.__mul__", defArgs s_Ratio___mul__, defBody s_Ratio___mul__, defScope s_Ratio___mul__, [], []⟩
def d_Ratio___invert__ : He.DefD := ⟨("Ratio", some "__invert__"), "__invert__", "Ratio.__invert__", defArgs s_Ratio___invert__, defBody s_Ratio___invert__, defScope s_Ratio___invert__, [], []⟩
def d_Ratio___pow__ : He.DefD := ⟨("Ratio", some "__pow__"), "__pow__", "Ratio.__pow__", defArgs s_Ratio___pow__, defBody s_Ratio___pow__, defScope s_Ratio___pow__, [], []⟩
def d_Ratio_raised : He.DefD := ⟨("Ratio", some "raised"), "raised", "Ratio.raised", defArgs s_Ratio_raised, defBody s_Ratio_raised, defScope s_Ratio_raised, [], []⟩
def d_Ratio_power : He.DefD := ⟨("Ratio", some "power"), "power", "Ratio.power", defArgs s_Ratio_power, defBody s_Ratio_power, defScope s_Ratio_power, [], []⟩
def d_Ratio___str__ : He.DefD := ⟨("Ratio", some "__str__"), "__str__", "Ratio.__str__", defArgs s_Ratio___str__, defBody s_Ratio___str__, defScope s_Ratio___str__, [], []⟩
def d_Ratio___repr__ : He.DefD := ⟨("Ratio", some "__repr__"), "__repr__", "Ratio.__repr__", defArgs s_Ratio___repr__, defBody s_Ratio___repr__, defScope s_Ratio___repr__, [], []⟩
def d_count_ratio : He.DefD := ⟨("count_ratio", none), "count_ratio", "count_ratio", defArgs s_count_ratio, defBody s_count_ratio, defScope s_count_ratio, [], []⟩
def d_power_of : He.DefD := ⟨("power_of", none), "power_of", "power_of", defArgs s_power_of, defBody s_power_of, defScope s_power_of, [], []⟩
def d_is_whole : He.DefD := ⟨("is_whole", none), "is_whole", "is_whole", defArgs s_is_whole, defBody s_is_whole, defScope s_is_whole, [], []⟩
def d__times_divided : He.DefD := ⟨("_times_divided", none), "_times_divided", "_times_divided", defArgs s__times_divided, defBody s__times_divided, defScope s__times_divided, [], []⟩
def d_is_number : He.DefD := ⟨("is_number", none), "is_number", "is_number", defArgs s_is_number, defBody s_is_number, defScope s_is_number, [], []⟩
def d_is_word : He.DefD := ⟨("is_word", none), "is_word", "is_word", defArgs s_is_word, defBody s_is_word, defScope s_is_word, [], []⟩
def d_word_index : He.DefD := ⟨("word_index", none), "word_index", "word_index", defArgs s_word_index, defBody s_word_index, defScope s_word_index, [], []⟩
def d_word_at : He.DefD := ⟨("word_at", none), "word_at", "word_at", defArgs s_word_at, defBody s_word_at, defScope s_word_at, [], []⟩
def d_digits : He.DefD := ⟨("digits", none), "digits", "digits", defArgs s_digits, defBody s_digits, defScope s_digits, [], []⟩
def d_all_words : He.DefD := ⟨("all_words", none), "all_words", "all_words", defArgs s_all_words, defBody s_all_words, defScope s_all_words, [], [("most", .int 4096)]⟩
def d__law_bag : He.DefD := ⟨("_law_bag", none), "_law_bag", "_law_bag", defArgs s__law_bag, defBody s__law_bag, defScope s__law_bag, [], []⟩
def d__law_draw : He.DefD := ⟨("_law_draw", none), "_law_draw", "_law_draw", defArgs s__law_draw, defBody s__law_draw, defScope s__law_draw, [], []⟩
def d__law_of : He.DefD := ⟨("_law_of", none), "_law_of", "_law_of", defArgs s__law_of, defBody s__law_of, defScope s__law_of, [], []⟩
def d__law_like : He.DefD := ⟨("_law_like", none), "_law_like", "_law_like", defArgs s__law_like, defBody s__law_like, defScope s__law_like, [], []⟩
def d__law_fault : He.DefD := ⟨("_law_fault", none), "_law_fault", "_law_fault", defArgs s__law_fault, defBody s__law_fault, defScope s__law_fault, [], []⟩
def d__law_ask : He.DefD := ⟨("_law_ask", none), "_law_ask", "_law_ask", defArgs s__law_ask, defBody s__law_ask, defScope s__law_ask, [], []⟩
def d__law_wrong : He.DefD := ⟨("_law_wrong", none), "_law_wrong", "_law_wrong", defArgs s__law_wrong, defBody s__law_wrong, defScope s__law_wrong, [], []⟩
def d__law_primes : He.DefD := ⟨("_law_primes", none), "_law_primes", "_law_primes", defArgs s__law_primes, defBody s__law_primes, defScope s__law_primes, [], []⟩
def d__law_number : He.DefD := ⟨("_law_number", none), "_law_number", "_law_number", defArgs s__law_number, defBody s__law_number, defScope s__law_number, [], []⟩
def d__law_worth : He.DefD := ⟨("_law_worth", none), "_law_worth", "_law_worth", defArgs s__law_worth, defBody s__law_worth, defScope s__law_worth, [], []⟩
def d__law_ratio_so : He.DefD := ⟨("_law_ratio_so", none), "_law_ratio_so", "_law_ratio_so", defArgs s__law_ratio_so, defBody s__law_ratio_so, defScope s__law_ratio_so, [], []⟩
def d__law_sum : He.DefD := ⟨("_law_sum", none), "_law_sum", "_law_sum", defArgs s__law_sum, defBody s__law_sum, defScope s__law_sum, [], []⟩
def d__law_drawn_ratio : He.DefD := ⟨("_law_drawn_ratio", none), "_law_drawn_ratio", "_law_drawn_ratio", defArgs s__law_drawn_ratio, defBody s__law_drawn_ratio, defScope s__law_drawn_ratio, [], []⟩
def d__law_ratios : He.DefD := ⟨("_law_ratios", none), "_law_ratios", "_law_ratios", defArgs s__law_ratios, defBody s__law_ratios, defScope s__law_ratios, [], []⟩
def d__law_refused_ratios : He.DefD := ⟨("_law_refused_ratios", none), "_law_refused_ratios", "_law_refused_ratios", defArgs s__law_refused_ratios, defBody s__law_refused_ratios, defScope s__law_refused_ratios, [], []⟩
def d__law_listed : He.DefD := ⟨("_law_listed", none), "_law_listed", "_law_listed", defArgs s__law_listed, defBody s__law_listed, defScope s__law_listed, [], []⟩
def d__law_words : He.DefD := ⟨("_law_words", none), "_law_words", "_law_words", defArgs s__law_words, defBody s__law_words, defScope s__law_words, [], []⟩
def d__law_refused_words : He.DefD := ⟨("_law_refused_words", none), "_law_refused_words", "_law_refused_words", defArgs s__law_refused_words, defBody s__law_refused_words, defScope s__law_refused_words, [], []⟩
def d__law_judged : He.DefD := ⟨("_law_judged", none), "_law_judged", "_law_judged", defArgs s__law_judged, defBody s__law_judged, defScope s__law_judged, [], []⟩
def d__law_more_words : He.DefD := ⟨("_law_more_words", none), "_law_more_words", "_law_more_words", defArgs s__law_more_words, defBody s__law_more_words, defScope s__law_more_words, [], []⟩
def d_law : He.DefD := ⟨("law", none), "law", "law", defArgs s_law, defBody s_law, defScope s_law, [], []⟩
def fn0 : List He.DefD := [d_InvalidNumber___init__, d_TooMany___init__, d_Ratio___init__, d_Ratio___eq__, d_Ratio___mul__, d_Ratio___invert__, d_Ratio___pow__, d_Ratio_raised, d_Ratio_power, d_Ratio___str__, d_Ratio___repr__, d_count_ratio]
def fn1 : List He.DefD := [d_power_of, d_is_whole, d__times_divided, d_is_number, d_is_word, d_word_index, d_word_at, d_digits, d_all_words, d__law_bag, d__law_draw, d__law_of]
def fn2 : List He.DefD := [d__law_like, d__law_fault, d__law_ask, d__law_wrong, d__law_primes, d__law_number, d__law_worth, d__law_ratio_so, d__law_sum, d__law_drawn_ratio, d__law_ratios, d__law_refused_ratios]
def fn3 : List He.DefD := [d__law_listed, d__law_words, d__law_refused_words, d__law_judged, d__law_more_words, d_law]
def fn : List He.DefD := fn0 ++ fn1 ++ fn2 ++ fn3
def fa0 : List He.Fa := [.free "ValueError", .free "abs", .free "all", .free "bool", .free "int", .free "isinstance", .free "len", .free "list", .free "max", .free "min", .free "range", .free "repr"]
def fa1 : List He.Fa := [.free "str", .free "tuple", .free "zip", .glo "BorderError", .glo "InvalidNumber", .glo "TooMany", .glo "Ratio", .glo "count_ratio", .glo "power_of", .glo "is_whole", .glo "_times_divided", .glo "is_number"]
def fa2 : List He.Fa := [.glo "is_word", .glo "word_index", .glo "word_at", .glo "digits", .glo "all_words", .glo "_law_bag", .glo "_law_draw", .glo "_law_of", .glo "_law_like", .glo "_law_fault", .glo "_law_ask", .glo "_law_wrong"]
def fa3 : List He.Fa := [.glo "_law_primes", .glo "_law_number", .glo "_law_worth", .glo "_law_ratio_so", .glo "_law_sum", .glo "_law_drawn_ratio", .glo "_law_ratios", .glo "_law_refused_ratios", .glo "_law_listed", .glo "_law_words", .glo "_law_refused_words", .glo "_law_judged"]
def fa4 : List He.Fa := [.glo "_law_more_words", .glo "law", .glo "PRIMES", .int "MOST" 4096, .int "MOST_SIGNS" 64, .int "MOST_LENGTH" 99, .cls "Ratio", .mkr "Ratio", .noat "Ratio" "top", .noat "Ratio" "bottom", .meth "Ratio" "raised", .meth "Ratio" "power"]
def fa5 : List He.Fa := [.exm "InvalidNumber" "BorderError" true, .exm "TooMany" "BorderError" true]
def fa : List He.Fa := fa0 ++ fa1 ++ fa2 ++ fa3 ++ fa4 ++ fa5
def loose0 : List PySem.Str := ["gcd", "BorderError", "InvalidNumber", "TooMany", "PRIMES", "Ratio", "count_ratio", "power_of", "is_whole", "_times_divided"]
def loose1 : List PySem.Str := ["MOST", "MOST_SIGNS", "MOST_LENGTH", "is_number", "is_word", "word_index", "word_at", "digits", "all_words", "_law_bag"]
def loose2 : List PySem.Str := ["_law_draw", "_law_of", "_law_like", "_law_fault", "_law_ask", "_law_wrong", "_law_primes", "_law_number", "_law_worth", "_law_ratio_so"]
def loose3 : List PySem.Str := ["_law_sum", "_law_drawn_ratio", "_law_ratios", "_law_refused_ratios", "_law_listed", "_law_words", "_law_refused_words", "_law_judged", "_law_more_words"]
def loose : List PySem.Str := loose0 ++ loose1 ++ loose2 ++ loose3
def e_InvalidNumber : ExcD := ⟨"InvalidNumber", ["value", "code"]⟩
def e_TooMany : ExcD := ⟨"TooMany", ["what", "count", "code"]⟩
def t_PRIMES : List He.Dv := [.int 2, .int 3, .int 5, .int 7, .int 11, .int 13, .int 17, .int 19, .int 23, .int 29, .int 31, .int 37, .int 41, .int 43, .int 47, .int 53, .int 59, .int 61]
def more0 (K : PySem.W.Frag) : Bool := e_InvalidNumber.ok K
def more1 (K : PySem.W.Frag) : Bool := e_TooMany.ok K
def more2 (K : PySem.W.Frag) : Bool := He.tupB K "PRIMES" t_PRIMES
def more3 (K : PySem.W.Frag) : Bool := decide (PySem.W.nsIn K mainGlobals "gcd" = some (some (.builtin "math.gcd")))
def more4 (K : PySem.W.Frag) : Bool := PySem.W.selfFirst K (He.ga K "Ratio")
def more5 (K : PySem.W.Frag) : Bool := isiB K (He.ga K "Ratio")
def more6 (K : PySem.W.Frag) : Bool := decide (PySem.W.typeIn K (.ref (He.ga K "Ratio")) = some (.type "type"))
def more7 (K : PySem.W.Frag) : Bool := (PySem.W.clsIn K (He.ga K "Ratio")).isSome
def more8 (K : PySem.W.Frag) : Bool := decide (PySem.W.findIn K (.ref (He.ga K "Ratio")) "__eq__" = some (some (.ref (He.ma K (He.ga K "Ratio") "__eq__"))))
def more9 (K : PySem.W.Frag) : Bool := PySem.W.isFn K (.ref (He.ma K (He.ga K "Ratio") "__eq__"))
def more10 (K : PySem.W.Frag) : Bool := decide (PySem.W.findIn K (.ref (He.ga K "Ratio")) "__mul__" = some (some (.ref (He.ma K (He.ga K "Ratio") "__mul__"))))
def more11 (K : PySem.W.Frag) : Bool := PySem.W.isFn K (.ref (He.ma K (He.ga K "Ratio") "__mul__"))
def more12 (K : PySem.W.Frag) : Bool := decide (PySem.W.findIn K (.ref (He.ga K "Ratio")) "__invert__" = some (some (.ref (He.ma K (He.ga K "Ratio") "__invert__"))))
def more13 (K : PySem.W.Frag) : Bool := PySem.W.isFn K (.ref (He.ma K (He.ga K "Ratio") "__invert__"))
def more14 (K : PySem.W.Frag) : Bool := decide (PySem.W.findIn K (.ref (He.ga K "Ratio")) "__pow__" = some (some (.ref (He.ma K (He.ga K "Ratio") "__pow__"))))
def more15 (K : PySem.W.Frag) : Bool := PySem.W.isFn K (.ref (He.ma K (He.ga K "Ratio") "__pow__"))
def more16 (K : PySem.W.Frag) : Bool := decide (PySem.W.findIn K (.ref (He.ga K "Ratio")) "__str__" = some (some (.ref (He.ma K (He.ga K "Ratio") "__str__"))))
def more17 (K : PySem.W.Frag) : Bool := PySem.W.isFn K (.ref (He.ma K (He.ga K "Ratio") "__str__"))
def more18 (K : PySem.W.Frag) : Bool := decide (PySem.W.findIn K (.ref (He.ga K "Ratio")) "__repr__" = some (some (.ref (He.ma K (He.ga K "Ratio") "__repr__"))))
def more19 (K : PySem.W.Frag) : Bool := PySem.W.isFn K (.ref (He.ma K (He.ga K "Ratio") "__repr__"))
def more20 (K : PySem.W.Frag) : Bool := !decide ((He.cT K ("_law_ratio_so", none)).2 = (He.cT K ("_law_ratios", none)).2)
def more21 (K : PySem.W.Frag) : Bool := !decide ((He.cT K ("_law_ratio_so", none)).2 = (He.cT K ("_law_refused_ratios", none)).2)
def more22 (K : PySem.W.Frag) : Bool := !decide ((He.cT K ("_law_ratios", none)).2 = (He.cT K ("_law_refused_ratios", none)).2)
def more23 (K : PySem.W.Frag) : Bool := !decide ((He.cT K ("_law_ratio_so", none)).2 = (He.cT K ("_law_words", none)).2)
def more24 (K : PySem.W.Frag) : Bool := !decide ((He.cT K ("_law_ratios", none)).2 = (He.cT K ("_law_words", none)).2)
def more25 (K : PySem.W.Frag) : Bool := !decide ((He.cT K ("_law_refused_ratios", none)).2 = (He.cT K ("_law_words", none)).2)
def more26 (K : PySem.W.Frag) : Bool := !decide ((He.cT K ("_law_ratio_so", none)).2 = (He.cT K ("_law_refused_words", none)).2)
def more27 (K : PySem.W.Frag) : Bool := !decide ((He.cT K ("_law_ratios", none)).2 = (He.cT K ("_law_refused_words", none)).2)
def more28 (K : PySem.W.Frag) : Bool := !decide ((He.cT K ("_law_refused_ratios", none)).2 = (He.cT K ("_law_refused_words", none)).2)
def more29 (K : PySem.W.Frag) : Bool := !decide ((He.cT K ("_law_words", none)).2 = (He.cT K ("_law_refused_words", none)).2)
def more30 (K : PySem.W.Frag) : Bool := exccB K "InvalidNumber"
def more31 (K : PySem.W.Frag) : Bool := exccB K "TooMany"
def more32 (K : PySem.W.Frag) : Bool := kitsB K "InvalidNumber" "InvalidNumber" true
def more33 (K : PySem.W.Frag) : Bool := kitsB K "TooMany" "InvalidNumber" false
def more34 (K : PySem.W.Frag) : Bool := kitsB K "TooMany" "TooMany" true
def more35 (K : PySem.W.Frag) : Bool := ndgB K
def more36 (K : PySem.W.Frag) : Bool := decide (PySem.W.findIn K (.ref (He.ga K "Ratio")) "__rpow__" = some none)
def more37 (K : PySem.W.Frag) : Bool := (PySem.W.findIn K (.type "int") "__pow__").isSome
def more38 (K : PySem.W.Frag) : Bool := (PySem.W.findIn K (.type "int") "__rpow__").isSome
def more39 (K : PySem.W.Frag) : Bool := decide (PySem.W.subIn K (.type "int") (.ref (He.ga K "Ratio")) = some false)
def more40 (K : PySem.W.Frag) : Bool := PySem.W.notFirst K (He.ga K "Ratio") (.type "int")
def more41 (K : PySem.W.Frag) : Bool := PySem.W.notFirst K (He.ga K "Ratio") (.type "str")
def more42 (K : PySem.W.Frag) : Bool := PySem.W.notFirst K (He.ga K "Ratio") (.type "tuple")
def more43 (K : PySem.W.Frag) : Bool := decide (PySem.W.findIn K (.ref (He.ga K "Ratio")) "__bool__" = some none)
def more44 (K : PySem.W.Frag) : Bool := decide (PySem.W.findIn K (.ref (He.ga K "Ratio")) "__len__" = some none)
def more45 (K : PySem.W.Frag) : Bool := decide (PySem.W.kitOne K (.type "int") (.ref (He.ga K "Ratio")) = some false)
def more46 (K : PySem.W.Frag) : Bool := decide (PySem.W.kitOne K (.type "str") (.ref (He.ga K "Ratio")) = some false)
def more47 (K : PySem.W.Frag) : Bool := decide (PySem.W.kitOne K (.type "tuple") (.ref (He.ga K "Ratio")) = some false)
def more48 (K : PySem.W.Frag) : Bool := decide (PySem.W.subIn K (.ref (He.ga K "InvalidNumber")) (.type "StopIteration") = some false)
def more49 (K : PySem.W.Frag) : Bool := decide (PySem.W.subIn K (.ref (He.ga K "TooMany")) (.type "StopIteration") = some false)
def more (K : PySem.W.Frag) : Bool := more0 K && (more1 K && (more2 K && (more3 K && (more4 K && (more5 K && (more6 K && (more7 K && (more8 K && (more9 K && (more10 K && (more11 K && (more12 K && (more13 K && (more14 K && (more15 K && (more16 K && (more17 K && (more18 K && (more19 K && (more20 K && (more21 K && (more22 K && (more23 K && (more24 K && (more25 K && (more26 K && (more27 K && (more28 K && (more29 K && (more30 K && (more31 K && (more32 K && (more33 K && (more34 K && (more35 K && (more36 K && (more37 K && (more38 K && (more39 K && (more40 K && (more41 K && (more42 K && (more43 K && (more44 K && (more45 K && (more46 K && (more47 K && (more48 K && (more49 K)))))))))))))))))))))))))))))))))))))))))))))))))
def tf : List He.Defn := [("_law_ratio_so", none), ("_law_ratios", none), ("_law_refused_ratios", none), ("_law_words", none), ("_law_refused_words", none)]
abbrev R : PySem.W.OpenRow := PySem.W.OpenLaw.row PySem.Challenge.rw_borderflow_k01_ratios_and_words
abbrev hk : PySem.W.Hook := hookY 5 fa fn [] tf more
def ob (s : PySem.W.SharedT) : He.AlX := obsY 5 fa fn [] tf more (HandSHeadRun.getT s)
theorem ob_eq (s : PySem.W.SharedT) : ob s = hk.obs s.abs := obsY_eq (HandSHeadRun.getT_eq s)
set_option maxHeartbeats 0 in
theorem run (w : World) : HandSHeadRun.RunEqI R (PySem.W.view R.prog [43]) hk ob 7000 loose w := by
  unfold HandSHeadRun.RunEqI
  kernel_rfl
def lawAt : Nat := 43
/-- what is known of the text's own part -/
abbrev TT (K : PySem.W.Frag) (mg : Str → Option Value) : Prop := TX fa fn more K mg
section
variable {K : PySem.W.Frag} {mg : Str → Option Value} (T : TT K mg)
include T
theorem m_0 : more0 K = true := by
  have h := T.more
  unfold more at h
  simp only [Bool.and_eq_true] at h
  exact h.1
theorem m_1 : more1 K = true := by
  have h := T.more
  unfold more at h
  simp only [Bool.and_eq_true] at h
  exact h.2.1
theorem m_2 : more2 K = true := by
  have h := T.more
  unfold more at h
  simp only [Bool.and_eq_true] at h
  exact h.2.2.1
theorem m_3 : more3 K = true := by
  have h := T.more
  unfold more at h
  simp only [Bool.and_eq_true] at h
  exact h.2.2.2.1
theorem m_4 : more4 K = true := by
  have h := T.more
  unfold more at h
  simp only [Bool.and_eq_true] at h
  exact h.2.2.2.2.1
theorem m_5 : more5 K = true := by
  have h := T.more
  unfold more at h
  simp only [Bool.and_eq_true] at h
  exact h.2.2.2.2.2.1
theorem m_6 : more6 K = true := by
  have h := T.more
  unfold more at h
  simp only [Bool.and_eq_true] at h
  exact h.2.2.2.2.2.2.1
theorem m_7 : more7 K = true := by
  have h := T.more
  unfold more at h
  simp only [Bool.and_eq_true] at h
  exact h.2.2.2.2.2.2.2.1
theorem m_8 : more8 K = true := by
  have h := T.more
  unfold more at h
  simp only [Bool.and_eq_true] at h
  exact h.2.2.2.2.2.2.2.2.1
theorem m_9 : more9 K = true := by
  have h := T.more
  unfold more at h
  simp only [Bool.and_eq_true] at h
  exact h.2.2.2.2.2.2.2.2.2.1
theorem m_10 : more10 K = true := by
  have h := T.more
  unfold more at h
  simp only [Bool.and_eq_true] at h
  exact h.2.2.2.2.2.2.2.2.2.2.1
theorem m_11 : more11 K = true := by
  have h := T.more
  unfold more at h
  simp only [Bool.and_eq_true] at h
  exact h.2.2.2.2.2.2.2.2.2.2.2.1
theorem m_12 : more12 K = true := by
  have h := T.more
  unfold more at h
  simp only [Bool.and_eq_true] at h
  exact h.2.2.2.2.2.2.2.2.2.2.2.2.1
theorem m_13 : more13 K = true := by
  have h := T.more
  unfold more at h
  simp only [Bool.and_eq_true] at h
  exact h.2.2.2.2.2.2.2.2.2.2.2.2.2.1
theorem m_14 : more14 K = true := by
  have h := T.more
  unfold more at h
  simp only [Bool.and_eq_true] at h
  exact h.2.2.2.2.2.2.2.2.2.2.2.2.2.2.1
theorem m_15 : more15 K = true := by
  have h := T.more
  unfold more at h
  simp only [Bool.and_eq_true] at h
  exact h.2.2.2.2.2.2.2.2.2.2.2.2.2.2.2.1
theorem m_16 : more16 K = true := by
  have h := T.more
  unfold more at h
  simp only [Bool.and_eq_true] at h
  exact h.2.2.2.2.2.2.2.2.2.2.2.2.2.2.2.2.1
theorem m_17 : more17 K = true := by
  have h := T.more
  unfold more at h
  simp only [Bool.and_eq_true] at h
  exact h.2.2.2.2.2.2.2.2.2.2.2.2.2.2.2.2.2.1
theorem m_18 : more18 K = true := by
  have h := T.more
  unfold more at h
  simp only [Bool.and_eq_true] at h
  exact h.2.2.2.2.2.2.2.2.2.2.2.2.2.2.2.2.2.2.1
theorem m_19 : more19 K = true := by
  have h := T.more
  unfold more at h
  simp only [Bool.and_eq_true] at h
  exact h.2.2.2.2.2.2.2.2.2.2.2.2.2.2.2.2.2.2.2.1
theorem m_20 : more20 K = true := by
  have h := T.more
  unfold more at h
  simp only [Bool.and_eq_true] at h
  exact h.2.2.2.2.2.2.2.2.2.2.2.2.2.2.2.2.2.2.2.2.1
theorem m_21 : more21 K = true := by
  have h := T.more
  unfold more at h
  simp only [Bool.and_eq_true] at h
  exact h.2.2.2.2.2.2.2.2.2.2.2.2.2.2.2.2.2.2.2.2.2.1
theorem m_22 : more22 K = true := by
  have h := T.more
  unfold more at h
  simp only [Bool.and_eq_true] at h
  exact h.2.2.2.2.2.2.2.2.2.2.2.2.2.2.2.2.2.2.2.2.2.2.1
theorem m_23 : more23 K = true := by
  have h := T.more
  unfold more at h
  simp only [Bool.and_eq_true] at h
  exact h.2.2.2.2.2.2.2.2.2.2.2.2.2.2.2.2.2.2.2.2.2.2.2.1
theorem m_24 : more24 K = true := by
  have h := T.more
  unfold more at h
  simp only [Bool.and_eq_true] at h
  exact h.2.2.2.2.2.2.2.2.2.2.2.2.2.2.2.2.2.2.2.2.2.2.2.2.1
theorem m_25 : more25 K = true := by
  have h := T.more
  unfold more at h
  simp only [Bool.and_eq_true] at h
  exact h.2.2.2.2.2.2.2.2.2.2.2.2.2.2.2.2.2.2.2.2.2.2.2.2.2.1
theorem m_26 : more26 K = true := by
  have h := T.more
  unfold more at h
  simp only [Bool.and_eq_true] at h
  exact h.2.2.2.2.2.2.2.2.2.2.2.2.2.2.2.2.2.2.2.2.2.2.2.2.2.2.1
theorem m_27 : more27 K = true := by
  have h := T.more
  unfold more at h
  simp only [Bool.and_eq_true] at h
  exact h.2.2.2.2.2.2.2.2.2.2.2.2.2.2.2.2.2.2.2.2.2.2.2.2.2.2.2.1
theorem m_28 : more28 K = true := by
  have h := T.more
  unfold more at h
  simp only [Bool.and_eq_true] at h
  exact h.2.2.2.2.2.2.2.2.2.2.2.2.2.2.2.2.2.2.2.2.2.2.2.2.2.2.2.2.1
theorem m_29 : more29 K = true := by
  have h := T.more
  unfold more at h
  simp only [Bool.and_eq_true] at h
  exact h.2.2.2.2.2.2.2.2.2.2.2.2.2.2.2.2.2.2.2.2.2.2.2.2.2.2.2.2.2.1
theorem m_30 : more30 K = true := by
  have h := T.more
  unfold more at h
  simp only [Bool.and_eq_true] at h
  exact h.2.2.2.2.2.2.2.2.2.2.2.2.2.2.2.2.2.2.2.2.2.2.2.2.2.2.2.2.2.2.1
theorem m_31 : more31 K = true := by
  have h := T.more
  unfold more at h
  simp only [Bool.and_eq_true] at h
  exact h.2.2.2.2.2.2.2.2.2.2.2.2.2.2.2.2.2.2.2.2.2.2.2.2.2.2.2.2.2.2.2.1
theorem m_32 : more32 K = true := by
  have h := T.more
  unfold more at h
  simp only [Bool.and_eq_true] at h
  exact h.2.2.2.2.2.2.2.2.2.2.2.2.2.2.2.2.2.2.2.2.2.2.2.2.2.2.2.2.2.2.2.2.1
theorem m_33 : more33 K = true := by
  have h := T.more
  unfold more at h
  simp only [Bool.and_eq_true] at h
  exact h.2.2.2.2.2.2.2.2.2.2.2.2.2.2.2.2.2.2.2.2.2.2.2.2.2.2.2.2.2.2.2.2.2.1
theorem m_34 : more34 K = true := by
  have h := T.more
  unfold more at h
  simp only [Bool.and_eq_true] at h
  exact h.2.2.2.2.2.2.2.2.2.2.2.2.2.2.2.2.2.2.2.2.2.2.2.2.2.2.2.2.2.2.2.2.2.2.1
theorem m_35 : more35 K = true := by
  have h := T.more
  unfold more at h
  simp only [Bool.and_eq_true] at h
  exact h.2.2.2.2.2.2.2.2.2.2.2.2.2.2.2.2.2.2.2.2.2.2.2.2.2.2.2.2.2.2.2.2.2.2.2.1
theorem m_36 : more36 K = true := by
  have h := T.more
  unfold more at h
  simp only [Bool.and_eq_true] at h
  exact h.2.2.2.2.2.2.2.2.2.2.2.2.2.2.2.2.2.2.2.2.2.2.2.2.2.2.2.2.2.2.2.2.2.2.2.2.1
theorem m_37 : more37 K = true := by
  have h := T.more
  unfold more at h
  simp only [Bool.and_eq_true] at h
  exact h.2.2.2.2.2.2.2.2.2.2.2.2.2.2.2.2.2.2.2.2.2.2.2.2.2.2.2.2.2.2.2.2.2.2.2.2.2.1
theorem m_38 : more38 K = true := by
  have h := T.more
  unfold more at h
  simp only [Bool.and_eq_true] at h
  exact h.2.2.2.2.2.2.2.2.2.2.2.2.2.2.2.2.2.2.2.2.2.2.2.2.2.2.2.2.2.2.2.2.2.2.2.2.2.2.1
theorem m_39 : more39 K = true := by
  have h := T.more
  unfold more at h
  simp only [Bool.and_eq_true] at h
  exact h.2.2.2.2.2.2.2.2.2.2.2.2.2.2.2.2.2.2.2.2.2.2.2.2.2.2.2.2.2.2.2.2.2.2.2.2.2.2.2.1
theorem m_40 : more40 K = true := by
  have h := T.more
  unfold more at h
  simp only [Bool.and_eq_true] at h
  exact h.2.2.2.2.2.2.2.2.2.2.2.2.2.2.2.2.2.2.2.2.2.2.2.2.2.2.2.2.2.2.2.2.2.2.2.2.2.2.2.2.1
theorem m_41 : more41 K = true := by
  have h := T.more
  unfold more at h
  simp only [Bool.and_eq_true] at h
  exact h.2.2.2.2.2.2.2.2.2.2.2.2.2.2.2.2.2.2.2.2.2.2.2.2.2.2.2.2.2.2.2.2.2.2.2.2.2.2.2.2.2.1
theorem m_42 : more42 K = true := by
  have h := T.more
  unfold more at h
  simp only [Bool.and_eq_true] at h
  exact h.2.2.2.2.2.2.2.2.2.2.2.2.2.2.2.2.2.2.2.2.2.2.2.2.2.2.2.2.2.2.2.2.2.2.2.2.2.2.2.2.2.2.1
theorem m_43 : more43 K = true := by
  have h := T.more
  unfold more at h
  simp only [Bool.and_eq_true] at h
  exact h.2.2.2.2.2.2.2.2.2.2.2.2.2.2.2.2.2.2.2.2.2.2.2.2.2.2.2.2.2.2.2.2.2.2.2.2.2.2.2.2.2.2.2.1
theorem m_44 : more44 K = true := by
  have h := T.more
  unfold more at h
  simp only [Bool.and_eq_true] at h
  exact h.2.2.2.2.2.2.2.2.2.2.2.2.2.2.2.2.2.2.2.2.2.2.2.2.2.2.2.2.2.2.2.2.2.2.2.2.2.2.2.2.2.2.2.2.1
theorem m_45 : more45 K = true := by
  have h := T.more
  unfold more at h
  simp only [Bool.and_eq_true] at h
  exact h.2.2.2.2.2.2.2.2.2.2.2.2.2.2.2.2.2.2.2.2.2.2.2.2.2.2.2.2.2.2.2.2.2.2.2.2.2.2.2.2.2.2.2.2.2.1
theorem m_46 : more46 K = true := by
  have h := T.more
  unfold more at h
  simp only [Bool.and_eq_true] at h
  exact h.2.2.2.2.2.2.2.2.2.2.2.2.2.2.2.2.2.2.2.2.2.2.2.2.2.2.2.2.2.2.2.2.2.2.2.2.2.2.2.2.2.2.2.2.2.2.1
theorem m_47 : more47 K = true := by
  have h := T.more
  unfold more at h
  simp only [Bool.and_eq_true] at h
  exact h.2.2.2.2.2.2.2.2.2.2.2.2.2.2.2.2.2.2.2.2.2.2.2.2.2.2.2.2.2.2.2.2.2.2.2.2.2.2.2.2.2.2.2.2.2.2.2.1
theorem m_48 : more48 K = true := by
  have h := T.more
  unfold more at h
  simp only [Bool.and_eq_true] at h
  exact h.2.2.2.2.2.2.2.2.2.2.2.2.2.2.2.2.2.2.2.2.2.2.2.2.2.2.2.2.2.2.2.2.2.2.2.2.2.2.2.2.2.2.2.2.2.2.2.2.1
theorem m_49 : more49 K = true := by
  have h := T.more
  unfold more at h
  simp only [Bool.and_eq_true] at h
  exact h.2.2.2.2.2.2.2.2.2.2.2.2.2.2.2.2.2.2.2.2.2.2.2.2.2.2.2.2.2.2.2.2.2.2.2.2.2.2.2.2.2.2.2.2.2.2.2.2.2
theorem F_InvalidNumber___init__ : FunD K "__init__" "InvalidNumber.__init__" (defArgs s_InvalidNumber___init__) (defBody s_InvalidNumber___init__) (defScope s_InvalidNumber___init__) (d_InvalidNumber___init__.dvs K) [] (He.ma K (He.ga K "InvalidNumber") "__init__") (fdOf K ("InvalidNumber", some "__init__")) := T.fn_ 0 (d := d_InvalidNumber___init__) rfl
theorem B_InvalidNumber___init__ : Binds K (fdOf K ("InvalidNumber", some "__init__")) ["self", "value"] [] := (F_InvalidNumber___init__ T).bindsN fun _ _ _ _ _ _ us hl => match us, hl with | [_, _], _ => rfl
theorem F_TooMany___init__ : FunD K "__init__" "TooMany.__init__" (defArgs s_TooMany___init__) (defBody s_TooMany___init__) (defScope s_TooMany___init__) (d_TooMany___init__.dvs K) [] (He.ma K (He.ga K "TooMany") "__init__") (fdOf K ("TooMany", some "__init__")) := T.fn_ 1 (d := d_TooMany___init__) rfl
theorem B_TooMany___init__ : Binds K (fdOf K ("TooMany", some "__init__")) ["self", "what", "count"] [] := (F_TooMany___init__ T).bindsN fun _ _ _ _ _ _ us hl => match us, hl with | [_, _, _], _ => rfl
theorem F_Ratio___init__ : FunD K "__init__" "Ratio.__init__" (defArgs s_Ratio___init__) (defBody s_Ratio___init__) (defScope s_Ratio___init__) (d_Ratio___init__.dvs K) [] (He.ma K (He.ga K "Ratio") "__init__") (fdOf K ("Ratio", some "__init__")) := T.fn_ 2 (d := d_Ratio___init__) rfl
theorem F_Ratio___eq__ : FunD K "__eq__" "Ratio.__eq__" (defArgs s_Ratio___eq__) (defBody s_Ratio___eq__) (defScope s_Ratio___eq__) (d_Ratio___eq__.dvs K) [] (He.ma K (He.ga K "Ratio") "__eq__") (fdOf K ("Ratio", some "__eq__")) := T.fn_ 3 (d := d_Ratio___eq__) rfl
theorem B_Ratio___eq__ : Binds K (fdOf K ("Ratio", some "__eq__")) ["self", "other"] [] := (F_Ratio___eq__ T).bindsN fun _ _ _ _ _ _ us hl => match us, hl with | [_, _], _ => rfl
theorem F_Ratio___mul__ : FunD K "__mul__" "Ratio.__mul__" (defArgs s_Ratio___mul__) (defBody s_Ratio___mul__) (defScope s_Ratio___mul__) (d_Ratio___mul__.dvs K) [] (He.ma K (He.ga K "Ratio") "__mul__") (fdOf K ("Ratio", some "__mul__")) := T.fn_ 4 (d := d_Ratio___mul__) rfl
theorem B_Ratio___mul__ : Binds K (fdOf K ("Ratio", some "__mul__")) ["self", "other"] [] := (F_Ratio___mul__ T).bindsN fun _ _ _ _ _ _ us hl => match us, hl with | [_, _], _ => rfl
theorem F_Ratio___invert__ : FunD K "__invert__" "Ratio.__invert__" (defArgs s_Ratio___invert__) (defBody s_Ratio___invert__) (defScope s_Ratio___invert__) (d_Ratio___invert__.dvs K) [] (He.ma K (He.ga K "Ratio") "__invert__") (fdOf K ("Ratio", some "__invert__")) := T.fn_ 5 (d := d_Ratio___invert__) rfl
theorem B_Ratio___invert__ : Binds K (fdOf K ("Ratio", some "__invert__")) ["self"] [] := (F_Ratio___invert__ T).bindsN fun _ _ _ _ _ _ us hl => match us, hl with | [_], _ => rfl
theorem F_Ratio___pow__ : FunD K "__pow__" "Ratio.__pow__" (defArgs s_Ratio___pow__) (defBody s_Ratio___pow__) (defScope s_Ratio___pow__) (d_Ratio___pow__.dvs K) [] (He.ma K (He.ga K "Ratio") "__pow__") (fdOf K ("Ratio", some "__pow__")) := T.fn_ 6 (d := d_Ratio___pow__) rfl
theorem B_Ratio___pow__ : Binds K (fdOf K ("Ratio", some "__pow__")) ["self", "k"] [] := (F_Ratio___pow__ T).bindsN fun _ _ _ _ _ _ us hl => match us, hl with | [_, _], _ => rfl
theorem F_Ratio_raised : FunD K "raised" "Ratio.raised" (defArgs s_Ratio_raised) (defBody s_Ratio_raised) (defScope s_Ratio_raised) (d_Ratio_raised.dvs K) [] (He.ma K (He.ga K "Ratio") "raised") (fdOf K ("Ratio", some "raised")) := T.fn_ 7 (d := d_Ratio_raised) rfl
theorem B_Ratio_raised : Binds K (fdOf K ("Ratio", some "raised")) ["self", "k"] [] := (F_Ratio_raised T).bindsN fun _ _ _ _ _ _ us hl => match us, hl with | [_, _], _ => rfl
theorem F_Ratio_power : FunD K "power" "Ratio.power" (defArgs s_Ratio_power) (defBody s_Ratio_power) (defScope s_Ratio_power) (d_Ratio_power.dvs K) [] (He.ma K (He.ga K "Ratio") "power") (fdOf K ("Ratio", some "power")) := T.fn_ 8 (d := d_Ratio_power) rfl
theorem B_Ratio_power : Binds K (fdOf K ("Ratio", some "power")) ["self", "prime"] [] := (F_Ratio_power T).bindsN fun _ _ _ _ _ _ us hl => match us, hl with | [_, _], _ => rfl
theorem F_Ratio___str__ : FunD K "__str__" "Ratio.__str__" (defArgs s_Ratio___str__) (defBody s_Ratio___str__) (defScope s_Ratio___str__) (d_Ratio___str__.dvs K) [] (He.ma K (He.ga K "Ratio") "__str__") (fdOf K ("Ratio", some "__str__")) := T.fn_ 9 (d := d_Ratio___str__) rfl
theorem B_Ratio___str__ : Binds K (fdOf K ("Ratio", some "__str__")) ["self"] [] := (F_Ratio___str__ T).bindsN fun _ _ _ _ _ _ us hl => match us, hl with | [_], _ => rfl
theorem F_Ratio___repr__ : FunD K "__repr__" "Ratio.__repr__" (defArgs s_Ratio___repr__) (defBody s_Ratio___repr__) (defScope s_Ratio___repr__) (d_Ratio___repr__.dvs K) [] (He.ma K (He.ga K "Ratio") "__repr__") (fdOf K ("Ratio", some "__repr__")) := T.fn_ 10 (d := d_Ratio___repr__) rfl
theorem B_Ratio___repr__ : Binds K (fdOf K ("Ratio", some "__repr__")) ["self"] [] := (F_Ratio___repr__ T).bindsN fun _ _ _ _ _ _ us hl => match us, hl with | [_], _ => rfl
theorem F_count_ratio : FunD K "count_ratio" "count_ratio" (defArgs s_count_ratio) (defBody s_count_ratio) (defScope s_count_ratio) (d_count_ratio.dvs K) [] (He.ga K "count_ratio") (fdOf K ("count_ratio", none)) := T.fn_ 11 (d := d_count_ratio) rfl
theorem B_count_ratio : Binds K (fdOf K ("count_ratio", none)) ["part", "whole"] [] := (F_count_ratio T).bindsN fun _ _ _ _ _ _ us hl => match us, hl with | [_, _], _ => rfl
theorem F_power_of : FunD K "power_of" "power_of" (defArgs s_power_of) (defBody s_power_of) (defScope s_power_of) (d_power_of.dvs K) [] (He.ga K "power_of") (fdOf K ("power_of", none)) := T.fn_ 12 (d := d_power_of) rfl
theorem B_power_of : Binds K (fdOf K ("power_of", none)) ["base", "exponent"] [] := (F_power_of T).bindsN fun _ _ _ _ _ _ us hl => match us, hl with | [_, _], _ => rfl
theorem F_is_whole : FunD K "is_whole" "is_whole" (defArgs s_is_whole) (defBody s_is_whole) (defScope s_is_whole) (d_is_whole.dvs K) [] (He.ga K "is_whole") (fdOf K ("is_whole", none)) := T.fn_ 13 (d := d_is_whole) rfl
theorem B_is_whole : Binds K (fdOf K ("is_whole", none)) ["value"] [] := (F_is_whole T).bindsN fun _ _ _ _ _ _ us hl => match us, hl with | [_], _ => rfl
theorem F__times_divided : FunD K "_times_divided" "_times_divided" (defArgs s__times_divided) (defBody s__times_divided) (defScope s__times_divided) (d__times_divided.dvs K) [] (He.ga K "_times_divided") (fdOf K ("_times_divided", none)) := T.fn_ 14 (d := d__times_divided) rfl
theorem B__times_divided : Binds K (fdOf K ("_times_divided", none)) ["number", "prime"] [] := (F__times_divided T).bindsN fun _ _ _ _ _ _ us hl => match us, hl with | [_, _], _ => rfl
theorem F_is_number : FunD K "is_number" "is_number" (defArgs s_is_number) (defBody s_is_number) (defScope s_is_number) (d_is_number.dvs K) [] (He.ga K "is_number") (fdOf K ("is_number", none)) := T.fn_ 15 (d := d_is_number) rfl
theorem B_is_number : Binds K (fdOf K ("is_number", none)) ["value", "least", "most"] [] := (F_is_number T).bindsN fun _ _ _ _ _ _ us hl => match us, hl with | [_, _, _], _ => rfl
theorem F_is_word : FunD K "is_word" "is_word" (defArgs s_is_word) (defBody s_is_word) (defScope s_is_word) (d_is_word.dvs K) [] (He.ga K "is_word") (fdOf K ("is_word", none)) := T.fn_ 16 (d := d_is_word) rfl
theorem B_is_word : Binds K (fdOf K ("is_word", none)) ["value", "signs"] [] := (F_is_word T).bindsN fun _ _ _ _ _ _ us hl => match us, hl with | [_, _], _ => rfl
theorem F_word_index : FunD K "word_index" "word_index" (defArgs s_word_index) (defBody s_word_index) (defScope s_word_index) (d_word_index.dvs K) [] (He.ga K "word_index") (fdOf K ("word_index", none)) := T.fn_ 17 (d := d_word_index) rfl
theorem B_word_index : Binds K (fdOf K ("word_index", none)) ["word", "signs"] [] := (F_word_index T).bindsN fun _ _ _ _ _ _ us hl => match us, hl with | [_, _], _ => rfl
theorem F_word_at : FunD K "word_at" "word_at" (defArgs s_word_at) (defBody s_word_at) (defScope s_word_at) (d_word_at.dvs K) [] (He.ga K "word_at") (fdOf K ("word_at", none)) := T.fn_ 18 (d := d_word_at) rfl
theorem B_word_at : Binds K (fdOf K ("word_at", none)) ["index", "length", "signs"] [] := (F_word_at T).bindsN fun _ _ _ _ _ _ us hl => match us, hl with | [_, _, _], _ => rfl
theorem F_digits : FunD K "digits" "digits" (defArgs s_digits) (defBody s_digits) (defScope s_digits) (d_digits.dvs K) [] (He.ga K "digits") (fdOf K ("digits", none)) := T.fn_ 19 (d := d_digits) rfl
theorem B_digits : Binds K (fdOf K ("digits", none)) ["index", "length", "signs"] [] := (F_digits T).bindsN fun _ _ _ _ _ _ us hl => match us, hl with | [_, _, _], _ => rfl
theorem F_all_words : FunD K "all_words" "all_words" (defArgs s_all_words) (defBody s_all_words) (defScope s_all_words) (d_all_words.dvs K) (d_all_words.kws K) (He.ga K "all_words") (fdOf K ("all_words", none)) := T.fn_ 20 (d := d_all_words) rfl
theorem F__law_bag : FunD K "_law_bag" "_law_bag" (defArgs s__law_bag) (defBody s__law_bag) (defScope s__law_bag) (d__law_bag.dvs K) [] (He.ga K "_law_bag") (fdOf K ("_law_bag", none)) := T.fn_ 21 (d := d__law_bag) rfl
theorem B__law_bag : Binds K (fdOf K ("_law_bag", none)) ["_law_script"] [] := (F__law_bag T).bindsN fun _ _ _ _ _ _ us hl => match us, hl with | [_], _ => rfl
theorem F__law_draw : FunD K "_law_draw" "_law_draw" (defArgs s__law_draw) (defBody s__law_draw) (defScope s__law_draw) (d__law_draw.dvs K) [] (He.ga K "_law_draw") (fdOf K ("_law_draw", none)) := T.fn_ 22 (d := d__law_draw) rfl
theorem B__law_draw : Binds K (fdOf K ("_law_draw", none)) ["_law_bag_here", "_law_many"] [] := (F__law_draw T).bindsN fun _ _ _ _ _ _ us hl => match us, hl with | [_, _], _ => rfl
theorem F__law_of : FunD K "_law_of" "_law_of" (defArgs s__law_of) (defBody s__law_of) (defScope s__law_of) (d__law_of.dvs K) [] (He.ga K "_law_of") (fdOf K ("_law_of", none)) := T.fn_ 23 (d := d__law_of) rfl
theorem B__law_of : Binds K (fdOf K ("_law_of", none)) ["_law_bag_here", "_law_things"] [] := (F__law_of T).bindsN fun _ _ _ _ _ _ us hl => match us, hl with | [_, _], _ => rfl
theorem F__law_like : FunD K "_law_like" "_law_like" (defArgs s__law_like) (defBody s__law_like) (defScope s__law_like) (d__law_like.dvs K) [] (He.ga K "_law_like") (fdOf K ("_law_like", none)) := T.fn_ 24 (d := d__law_like) rfl
theorem B__law_like : Binds K (fdOf K ("_law_like", none)) ["_law_found", "_law_due"] [] := (F__law_like T).bindsN fun _ _ _ _ _ _ us hl => match us, hl with | [_, _], _ => rfl
theorem F__law_fault : FunD K "_law_fault" "_law_fault" (defArgs s__law_fault) (defBody s__law_fault) (defScope s__law_fault) (d__law_fault.dvs K) [] (He.ga K "_law_fault") (fdOf K ("_law_fault", none)) := T.fn_ 25 (d := d__law_fault) rfl
theorem B__law_fault : Binds K (fdOf K ("_law_fault", none)) ["_law_error"] [] := (F__law_fault T).bindsN fun _ _ _ _ _ _ us hl => match us, hl with | [_], _ => rfl
theorem F__law_ask : FunD K "_law_ask" "_law_ask" (defArgs s__law_ask) (defBody s__law_ask) (defScope s__law_ask) (d__law_ask.dvs K) [] (He.ga K "_law_ask") (fdOf K ("_law_ask", none)) := T.fn_ 26 (d := d__law_ask) rfl
theorem B__law_ask : Binds K (fdOf K ("_law_ask", none)) ["_law_deed"] [] := (F__law_ask T).bindsN fun _ _ _ _ _ _ us hl => match us, hl with | [_], _ => rfl
theorem F__law_wrong : FunD K "_law_wrong" "_law_wrong" (defArgs s__law_wrong) (defBody s__law_wrong) (defScope s__law_wrong) (d__law_wrong.dvs K) [] (He.ga K "_law_wrong") (fdOf K ("_law_wrong", none)) := T.fn_ 27 (d := d__law_wrong) rfl
theorem B__law_wrong : Binds K (fdOf K ("_law_wrong", none)) ["_law_bag_here"] [] := (F__law_wrong T).bindsN fun _ _ _ _ _ _ us hl => match us, hl with | [_], _ => rfl
theorem F__law_primes : FunD K "_law_primes" "_law_primes" (defArgs s__law_primes) (defBody s__law_primes) (defScope s__law_primes) (d__law_primes.dvs K) [] (He.ga K "_law_primes") (fdOf K ("_law_primes", none)) := T.fn_ 28 (d := d__law_primes) rfl
theorem B__law_primes : Binds K (fdOf K ("_law_primes", none)) [] [] := (F__law_primes T).bindsN fun _ _ _ _ _ _ us hl => match us, hl with | [], _ => rfl
theorem F__law_number : FunD K "_law_number" "_law_number" (defArgs s__law_number) (defBody s__law_number) (defScope s__law_number) (d__law_number.dvs K) [] (He.ga K "_law_number") (fdOf K ("_law_number", none)) := T.fn_ 29 (d := d__law_number) rfl
theorem B__law_number : Binds K (fdOf K ("_law_number", none)) ["_law_bag_here", "_law_room", "_law_most_primes"] [] := (F__law_number T).bindsN fun _ _ _ _ _ _ us hl => match us, hl with | [_, _, _], _ => rfl
theorem F__law_worth : FunD K "_law_worth" "_law_worth" (defArgs s__law_worth) (defBody s__law_worth) (defScope s__law_worth) (d__law_worth.dvs K) [] (He.ga K "_law_worth") (fdOf K ("_law_worth", none)) := T.fn_ 30 (d := d__law_worth) rfl
theorem B__law_worth : Binds K (fdOf K ("_law_worth", none)) ["_law_powers"] [] := (F__law_worth T).bindsN fun _ _ _ _ _ _ us hl => match us, hl with | [_], _ => rfl
theorem F__law_ratio_so : FunD K "_law_ratio_so" "_law_ratio_so" (defArgs s__law_ratio_so) (defBody s__law_ratio_so) (defScope s__law_ratio_so) (d__law_ratio_so.dvs K) [] (He.ga K "_law_ratio_so") (fdOf K ("_law_ratio_so", none)) := T.fn_ 31 (d := d__law_ratio_so) rfl
theorem B__law_ratio_so : Binds K (fdOf K ("_law_ratio_so", none)) ["_law_bag_here", "_law_ratio", "_law_powers"] [] := (F__law_ratio_so T).bindsN fun _ _ _ _ _ _ us hl => match us, hl with | [_, _, _], _ => rfl
theorem F__law_sum : FunD K "_law_sum" "_law_sum" (defArgs s__law_sum) (defBody s__law_sum) (defScope s__law_sum) (d__law_sum.dvs K) [] (He.ga K "_law_sum") (fdOf K ("_law_sum", none)) := T.fn_ 32 (d := d__law_sum) rfl
theorem B__law_sum : Binds K (fdOf K ("_law_sum", none)) ["_law_one", "_law_two"] [] := (F__law_sum T).bindsN fun _ _ _ _ _ _ us hl => match us, hl with | [_, _], _ => rfl
theorem F__law_drawn_ratio : FunD K "_law_drawn_ratio" "_law_drawn_ratio" (defArgs s__law_drawn_ratio) (defBody s__law_drawn_ratio) (defScope s__law_drawn_ratio) (d__law_drawn_ratio.dvs K) [] (He.ga K "_law_drawn_ratio") (fdOf K ("_law_drawn_ratio", none)) := T.fn_ 33 (d := d__law_drawn_ratio) rfl
theorem B__law_drawn_ratio : Binds K (fdOf K ("_law_drawn_ratio", none)) ["_law_bag_here"] [] := (F__law_drawn_ratio T).bindsN fun _ _ _ _ _ _ us hl => match us, hl with | [_], _ => rfl
theorem F__law_ratios : FunD K "_law_ratios" "_law_ratios" (defArgs s__law_ratios) (defBody s__law_ratios) (defScope s__law_ratios) (d__law_ratios.dvs K) [] (He.ga K "_law_ratios") (fdOf K ("_law_ratios", none)) := T.fn_ 34 (d := d__law_ratios) rfl
theorem B__law_ratios : Binds K (fdOf K ("_law_ratios", none)) ["_law_bag_here"] [] := (F__law_ratios T).bindsN fun _ _ _ _ _ _ us hl => match us, hl with | [_], _ => rfl
theorem F__law_refused_ratios : FunD K "_law_refused_ratios" "_law_refused_ratios" (defArgs s__law_refused_ratios) (defBody s__law_refused_ratios) (defScope s__law_refused_ratios) (d__law_refused_ratios.dvs K) [] (He.ga K "_law_refused_ratios") (fdOf K ("_law_refused_ratios", none)) := T.fn_ 35 (d := d__law_refused_ratios) rfl
theorem B__law_refused_ratios : Binds K (fdOf K ("_law_refused_ratios", none)) ["_law_bag_here"] [] := (F__law_refused_ratios T).bindsN fun _ _ _ _ _ _ us hl => match us, hl with | [_], _ => rfl
theorem F__law_listed : FunD K "_law_listed" "_law_listed" (defArgs s__law_listed) (defBody s__law_listed) (defScope s__law_listed) (d__law_listed.dvs K) [] (He.ga K "_law_listed") (fdOf K ("_law_listed", none)) := T.fn_ 36 (d := d__law_listed) rfl
theorem B__law_listed : Binds K (fdOf K ("_law_listed", none)) ["_law_signs", "_law_size"] [] := (F__law_listed T).bindsN fun _ _ _ _ _ _ us hl => match us, hl with | [_, _], _ => rfl
theorem F__law_words : FunD K "_law_words" "_law_words" (defArgs s__law_words) (defBody s__law_words) (defScope s__law_words) (d__law_words.dvs K) [] (He.ga K "_law_words") (fdOf K ("_law_words", none)) := T.fn_ 37 (d := d__law_words) rfl
theorem B__law_words : Binds K (fdOf K ("_law_words", none)) ["_law_bag_here"] [] := (F__law_words T).bindsN fun _ _ _ _ _ _ us hl => match us, hl with | [_], _ => rfl
theorem F__law_refused_words : FunD K "_law_refused_words" "_law_refused_words" (defArgs s__law_refused_words) (defBody s__law_refused_words) (defScope s__law_refused_words) (d__law_refused_words.dvs K) [] (He.ga K "_law_refused_words") (fdOf K ("_law_refused_words", none)) := T.fn_ 38 (d := d__law_refused_words) rfl
theorem B__law_refused_words : Binds K (fdOf K ("_law_refused_words", none)) ["_law_bag_here"] [] := (F__law_refused_words T).bindsN fun _ _ _ _ _ _ us hl => match us, hl with | [_], _ => rfl
theorem F__law_judged : FunD K "_law_judged" "_law_judged" (defArgs s__law_judged) (defBody s__law_judged) (defScope s__law_judged) (d__law_judged.dvs K) [] (He.ga K "_law_judged") (fdOf K ("_law_judged", none)) := T.fn_ 39 (d := d__law_judged) rfl
theorem B__law_judged : Binds K (fdOf K ("_law_judged", none)) ["_law_bag_here"] [] := (F__law_judged T).bindsN fun _ _ _ _ _ _ us hl => match us, hl with | [_], _ => rfl
theorem F__law_more_words : FunD K "_law_more_words" "_law_more_words" (defArgs s__law_more_words) (defBody s__law_more_words) (defScope s__law_more_words) (d__law_more_words.dvs K) [] (He.ga K "_law_more_words") (fdOf K ("_law_more_words", none)) := T.fn_ 40 (d := d__law_more_words) rfl
theorem B__law_more_words : Binds K (fdOf K ("_law_more_words", none)) ["_law_bag_here"] [] := (F__law_more_words T).bindsN fun _ _ _ _ _ _ us hl => match us, hl with | [_], _ => rfl
theorem F_law : FunD K "law" "law" (defArgs s_law) (defBody s_law) (defScope s_law) (d_law.dvs K) [] (He.ga K "law") (fdOf K ("law", none)) := T.fn_ 41 (d := d_law) rfl
theorem B_law : Binds K (fdOf K ("law", none)) ["_law_script"] [] := (F_law T).bindsN fun _ _ _ _ _ _ us hl => match us, hl with | [_], _ => rfl
end
end BF
/-! ## the end, told of what is proved of the law (here: later the text has taken the memory) -/
namespace BF
open PySem PySem.Spec PyProof.Rows L2
theorem tx_of {K : PySem.W.Frag} {h : Heap} {mg : Str → Option Value} {w : World} (X : K.In h) (G : h.Ns mainGlobals mg) (c : He.SaysX fa fn [] tf more w h K) : TT K mg :=
  ⟨c.t.d, c.more, fun x v e => PySem.W.mg_of X G e, fun x e => PySem.W.mg_none_of X G e⟩
end BF
section
open PySem PySem.W PySem.Calls PyProof.Rows
theorem BF.end_top (hlaw : ∀ {w : World} {K : PySem.W.Frag} {h : Heap} {mg : Str → Option Value} (l : PySem.W.OpenLaw), K.In h → h.Ns mainGlobals mg → He.SaysX BF.fa BF.fn [] BF.tf BF.more w h K → LamX.LawAtS l w K (L2.CX l.prog w) 16 63 "_law_script" mg (He.ga K "law") h) : PySem.Challenge.rw_borderflow_k01_ratios_and_words.Holds := by
  refine BF.law_top fun said => ?_
  refine HandSHeadRun.head_imp (r := OpenLaw.row PySem.Challenge.rw_borderflow_k01_ratios_and_words) (q := view (OpenLaw.row PySem.Challenge.rw_borderflow_k01_ratios_and_words).prog [BF.lawAt]) (H := BF.hk) (ob := BF.ob) (M := 7000) (loose := BF.loose) (d := HandSHeadRun.topDef (OpenLaw.row PySem.Challenge.rw_borderflow_k01_ratios_and_words).prog BF.lawAt) (kwd := [])
    BF.ob_eq BF.run (by kernel_rfl) (by kernel_rfl) (by kernel_rfl) (by rfl) (by first | assumption | decide +kernel) (by decide +kernel) ⟨rfl, rfl, rfl, rfl, rfl, by decide +kernel⟩ ?hw ?hc
  case hw => w_witness2
  case hc =>
    refine LamX.walk_ofTsE (l := PySem.Challenge.rw_borderflow_k01_ratios_and_words) (n := 63) (k := 16) (x := "_law_script") (CX := fun w => L2.CX PySem.Challenge.rw_borderflow_k01_ratios_and_words.prog w) rfl (by decide) (by kernel_rfl) ⟨rfl, by decide, by decide⟩ ?F (fun _ _ _ _ _ ⟨_, _, _, _, _, _, _, _, _, _, _, _, z⟩ => z)
    intro w mg at_ h ⟨K, KX, c⟩ G q0
    have q1 : mg ("law" : PySem.Str) = some (.ref at_) := by
      rw [← show (HandSHeadRun.topDef (OpenLaw.row PySem.Challenge.rw_borderflow_k01_ratios_and_words).prog BF.lawAt).name = ("law" : PySem.Str) from by kernel_rfl]
      exact q0
    cases q1.symm.trans ((BF.tx_of KX G c).glo "law" rfl)
    exact ⟨K, KX, hlaw _ KX G c⟩
end
/-! macros: lk (a fact of an earlier heap), nm (not among), st (a step), sts (steps) -/
local macro_rules | `(tactic| walk_at "nm") => `(tactic| first | exact List.not_mem_nil | assumption | (simp only [List.mem_cons, List.not_mem_nil, or_false, not_or]; first | assumption | (refine ⟨?_, ?_⟩ <;> assumption) | (intro h; subst h; simp_all)))
local macro_rules | `(tactic| walk_at "lk") => `(tactic| first
  | assumption
  | (apply BF.sql_of; walk_at "lk1")
  | (apply BF.sqt_of; walk_at "lk1")
  | (refine BF.sql_ex (by assumption) ?_ ?_; (walk_at "nm"); (walk_at "lk"))
  | (refine BF.sqt_ex (by assumption) ?_ ?_; (walk_at "nm"); (walk_at "lk"))
  | (apply BF.sql_ex; (assumption); (walk_at "nm"); (walk_at "lk"))
  | (apply BF.sqt_ex; (assumption); (walk_at "nm"); (walk_at "lk"))
  | walk_at "lk1")
local macro_rules | `(tactic| walk_at "lk1") => `(tactic| first
  | assumption
  | exact L2.upd_same
  | (apply BF.at_ex; (assumption); (walk_at "nm"); (walk_at "lk1"))
  | (rw [L2.upd_ne (by assumption)]; walk_at "lk1")
  | (rw [L2.upd_ne (Ne.symm (by assumption))]; walk_at "lk1"))
local macro_rules | `(tactic| walk_at "ss") => `(tactic| first | (intro _ h; cases h; done) | (intro _ h; assumption) | (intro _ h; exact h) | (intro _ h; simp only [List.mem_cons, List.not_mem_nil, or_false] at h ⊢; simp_all))
local macro_rules | `(tactic| walk_at "ex") => `(tactic| first
  | assumption
  | exact BF.Ex.refl _
  | (refine' BF.Ex.st (by assumption) ?_ ?_; (walk_at "ss"); (walk_at "ex")))
local macro_rules | `(tactic| walk_at "sset") => `(tactic| (first | (simp only [List.set_cons_succ, List.set_cons_zero]; done) | (simp only [List.set_cons_succ, List.set_cons_zero]; rfl) | rfl))
local macro_rules | `(tactic| walk_at "st") => `(tactic| (with_reducible first
  | refine' BF.x_seq ?_
  | refine' BF.x_asg ?_
  | (refine' BF.x_var (by with_unfolding_all rfl) ?_)
  | refine' BF.x_c ?_
  | refine' BF.x_op ?_
  | refine' BF.x_cons ?_
  | refine' BF.x_nil ?_
  | refine' BF.x_addI ?_
  | refine' BF.x_I0 ?_
  | refine' BF.x_intc ?_
  | refine' BF.x_int ?_
  | refine' BF.x_cb ?_
  | refine' BF.x_call ?_
  | refine' BF.x_ret ?_
  | refine' BF.x_ifS ?_
  | refine' BF.x_test ?_
  | refine' BF.x_B ?_
  | refine' BF.x_bl ?_
  | refine' BF.x_blV ?_
  | refine' BF.x_and ?_
  | refine' BF.x_or ?_
  | refine' BF.x_not ?_
  | refine' BF.x_if ?_
  | refine' BF.x_andV ?_
  | refine' BF.x_orV ?_
  | refine' BF.x_notV ?_
  | refine' BF.x_eqI ?_
  | refine' BF.x_neI ?_
  | refine' BF.x_eqB ?_
  | refine' BF.x_eqS ?_
  | refine' BF.x_neS ?_
  | refine' BF.x_neB ?_
  | refine' BF.x_un ?_
  | refine' BF.x_U ?_
  | refine' BF.x_gsub ?_
  | refine' BF.x_sl ?_
  | refine' BF.x_part ?_
  | refine' BF.x_nopart ?_
  | refine' BF.x_tup ?_
  | refine' BF.x_tupE ?_
  | refine' BF.x_lstE ?_
  | refine' BF.x_lst ?_
  | refine' BF.x_next ?_
  | refine' BF.x_drop ?_
  | refine' BF.x_retN ?_
  | refine' BF.x_isNo ?_
  | refine' BF.x_notNo ?_
  | refine' BF.x_abs ?_
  | refine' BF.x_bm ?_
  | refine' BF.x_bm0 ?_
  | refine' BF.x_gcons ?_
  | refine' BF.x_gnil ?_
  | refine' BF.x_par ?_
  | refine' BF.x_par2 ?_
  | refine' BF.x_brk ?_
  | refine' BF.x_cnt ?_
  | refine' BF.x_for ?_
  | refine' BF.x_ilist ?_
  | refine' BF.x_itup ?_
  | refine' BF.x_irng ?_
  | refine' BF.x_izipA ?_
  | refine' BF.x_lc ?_
  | refine' BF.x_yes ?_
  | refine' BF.x_ost ?_
  | refine' BF.x_rs ?_
  | refine' BF.x_chain ?_
  | refine' BF.x_ipI ?_
  | (refine' BF.x_aug (by with_unfolding_all rfl) ?_)
  | refine' BF.x_fld ?_
  | refine' BF.x_sfld ?_
  | refine' BF.x_meth ?_
  | refine' BF.x_make ?_
  | refine' BF.x_gcd ?_
  | refine' BF.x_iteY ?_
  | refine' BF.x_iteNo ?_))
local macro_rules | `(tactic| walk_at "gn") => `(tactic| ((with_reducible apply BF.x_gname); (walk_at "sset")))
local macro_rules | `(tactic| walk_at "go") => `(tactic| repeat (first | walk_at "st" | walk_at "gn"))
local macro_rules | `(tactic| walk_at "in") => `(tactic| (dsimp only [L2.cxOf, L2.Cx.nox, L2.Cx.wish, L2.start]; dsimp only [List.map, List.append_eq, List.append, HAppend.hAppend, Append.append, List.length_cons, List.length_nil, List.cons_append, List.nil_append, List.replicate_succ, List.replicate_zero, Nat.reduceAdd, Nat.reduceSub, List.append_nil, Nat.zero_add]))
local macro_rules | `(tactic| walk_at "il") => `(tactic| first
  | ((with_reducible apply BF.x_ixL); (walk_at "lk"); (with_unfolding_all rfl))
  | ((with_reducible apply BF.x_ixT); (walk_at "lk"); (with_unfolding_all rfl)))
local macro_rules | `(tactic| walk_at "len") => `(tactic| first
  | ((with_reducible apply BF.x_lenL); (walk_at "lk"))
  | ((with_reducible apply BF.x_lenT); (walk_at "lk")))
local macro_rules | `(tactic| walk_at "lset") => `(tactic| first | (simp only [Int.reduceToNat, Int.toNat_zero, Int.toNat_one, List.set_cons_succ, List.set_cons_zero]; done) | (simp only [Int.reduceToNat, Int.toNat_zero, Int.toNat_one, List.set_cons_succ, List.set_cons_zero]; rfl) | rfl)
local macro_rules | `(tactic| walk_at "sl") => `(tactic| ((with_reducible apply BF.x_setL2); (walk_at "lk1"); (with_unfolding_all rfl); (walk_at "lset"); (intro _ _ _)))
local macro_rules | `(tactic| walk_at "al") => `(tactic| ((with_reducible apply BF.x_len1); (simp only [List.length_cons, List.length_nil]; omega); (intro _ _ _ _ _)))
local macro_rules | `(tactic| walk_at "slc") => `(tactic| ((with_reducible apply BF.x_slL); (walk_at "lk"); (intro _ _ _ _ _)))
local macro_rules | `(tactic| walk_at "lst") => `(tactic| first
  | ((with_reducible apply BF.x_listL); (walk_at "lk"); (intro _ _ _ _ _))
  | ((with_reducible apply BF.x_listT); (walk_at "lk"); (intro _ _ _ _ _))
  | ((with_reducible apply BF.x_tupL); (walk_at "lk"); (intro _ _ _ _ _))
  | ((with_reducible apply BF.x_tupT); (walk_at "lk")))
local macro_rules | `(tactic| walk_at "app") => `(tactic| ((with_reducible apply BF.x_tyL); (walk_at "lk1")))
local macro_rules | `(tactic| walk_at "ol") => `(tactic| first
  | ((with_reducible apply BF.x_onList); (walk_at "lk"))
  | ((with_reducible apply BF.x_onTup); (walk_at "lk"))
  | ((with_reducible apply BF.x_onRng); omega; omega)
  | ((with_reducible apply BF.x_onZipL); (walk_at "lk"); (walk_at "lk"))
  | ((with_reducible apply BF.x_onZipT); (walk_at "lk"); (walk_at "lk")))
local macro_rules | `(tactic| walk_at "ty") => `(tactic| first
  | assumption
  | exact L2.TyX.base .non
  | exact L2.TyX.base (.bl _)
  | exact L2.TyX.base (.int _)
  | exact L2.TyX.base (.str _)
  | (refine BF.ty_sqL ?_; walk_at "lk")
  | (refine BF.ty_sqT ?_; walk_at "lk")
  | (apply BF.ty_sqL; walk_at "lk")
  | (apply BF.ty_sqT; walk_at "lk"))
local macro_rules | `(tactic| walk_at "kb") => `(tactic| first
  | exact BF.kb_NoneType_list
  | exact BF.kb_NoneType_tuple
  | exact BF.kb_NoneType_bool
  | exact BF.kb_NoneType_str
  | exact BF.kb_NoneType_int
  | exact BF.kb_bool_list
  | exact BF.kb_bool_tuple
  | exact BF.kb_bool_bool
  | exact BF.kb_bool_str
  | exact BF.kb_bool_int
  | exact BF.kb_int_list
  | exact BF.kb_int_tuple
  | exact BF.kb_int_bool
  | exact BF.kb_int_str
  | exact BF.kb_int_int
  | exact BF.kb_str_list
  | exact BF.kb_str_tuple
  | exact BF.kb_str_bool
  | exact BF.kb_str_str
  | exact BF.kb_str_int
  | exact BF.kb_list_list
  | exact BF.kb_list_tuple
  | exact BF.kb_list_bool
  | exact BF.kb_list_str
  | exact BF.kb_list_int
  | exact BF.kb_tuple_list
  | exact BF.kb_tuple_tuple
  | exact BF.kb_tuple_bool
  | exact BF.kb_tuple_str
  | exact BF.kb_tuple_int)
local macro_rules | `(tactic| walk_at "is") => `(tactic| first
  | ((with_reducible apply BF.x_isi); (walk_at "ty"); (walk_at "kb"))
  | ((with_reducible apply BF.x_isiLT); (walk_at "ty"); (walk_at "lk1"); (walk_at "kb"); (walk_at "kb")))
local macro_rules | `(tactic| walk_at "ar") => `(tactic| first
  | ((with_reducible refine BF.cpow_of ?_ ?_ ?_ ?_) <;> omega)
  | ((with_reducible refine BF.cmul_of ?_ ?_ ?_ ?_) <;> omega)
  | ((with_reducible refine BF.cdiv_of ?_ ?_) <;> omega)
  | (show (0 : Int) < _; omega))
local macro_rules | `(tactic| walk_at "xi") => `(tactic| ((with_reducible refine' BF.x_I ?_ ?_); (walk_at "ar")))
local macro_rules | `(tactic| walk_at "gt") => `(tactic| ((with_reducible apply BF.x_gtup); (walk_at "lk"); (with_unfolding_all rfl)))
local macro_rules | `(tactic| walk_at "dec") => `(tactic| first
  | with_reducible refine' BF.x_iteT (by with_unfolding_all rfl) ?_
  | with_reducible refine' BF.x_iteF (by with_unfolding_all rfl) ?_
  | with_reducible refine' BF.x_iteT (decide_eq_true rfl) ?_)
local macro_rules | `(tactic| walk_at "pf") => `(tactic| first
  | exact BF.putF_nil
  | exact BF.putF_eq
  | (apply BF.putF_ne; (decide); (walk_at "pf")))
local macro_rules | `(tactic| walk_at "ob") => `(tactic| first
  | ((with_reducible apply BF.x_fldR); (walk_at "lk1"); (assumption); (assumption); (with_unfolding_all rfl))
  | ((with_reducible apply BF.x_sfldR); (walk_at "lk1"); (assumption); (assumption); (simp only [List.length_cons, List.length_nil]; omega); (walk_at "pf"); (intro _ _ _))
  | ((with_reducible apply BF.x_methR); (walk_at "lk1"); (with_unfolding_all rfl)))
local macro_rules | `(tactic| walk_at "os") => `(tactic| first
  | ((with_reducible apply BF.x_ost1); (assumption); (assumption); (assumption); (intro _ _ _ _ _ _ _))
  | ((with_reducible apply BF.x_ost2); (assumption); (assumption); (simp only [List.length_cons, List.length_nil]; omega); (assumption); (assumption); (assumption); (intro _ _ _ _)))
local macro_rules | `(tactic| walk_at "gg") => `(tactic| repeat (first | walk_at "st" | walk_at "gn" | walk_at "il" | walk_at "len" | walk_at "sl" | walk_at "al" | walk_at "xi" | walk_at "slc" | walk_at "lst" | walk_at "ol" | walk_at "app" | walk_at "is" | walk_at "gt" | walk_at "dec" | walk_at "ob" | walk_at "os"))
/-! ## Values apart from the heap: data, what stays, the state of a def that runs -/
namespace VF
open PySem PySem.Spec PyProof.Rows L2
/-- data: a value with all that hangs on it; bag: the draws' own list, known by its place alone -/
inductive DV where
  | non | bl (b : Bool) | int (i : Int) | str (x : Str) | lst (ds : List DV) | tup (ds : List DV)
  | ins (c : Str) (ns : List Str) (ds : List DV) | exc (c : Str) (ns : List Str) (ds : List DV)
  | bag | ty (n : String) | cls (c : Str)
  | tupz (ds : List DV) -- a tuple of which is known that it has no dict
/-- all stays but what M names, and tables -/
def Ey (M : List Addr) (H H' : Hp) : Prop := ∀ x o, x ∉ M → H x = some o → (∀ ps, o ≠ .tbl ps) → H' x = some o
theorem Ey.refl {M : List Addr} (H : Hp) : Ey M H H := fun _ _ _ h _ => h
theorem Ey.tr {M : List Addr} {H H1 H2 : Hp} (a : Ey M H H1) (b : Ey M H1 H2) : Ey M H H2 := fun x o n h t => b x o n (a x o n h t) t
theorem Ey.sub {M M' : List Addr} {H H' : Hp} (h : Ey M H H') (s : ∀ x ∈ M, x ∈ M') : Ey M' H H' := fun x o n e t => h x o (fun z => n (s x z)) e t
theorem Ey.ex {M : List Addr} {H H' : Hp} (h : BF.Ex M H H') : Ey M H H' := fun x o n e _ => h x o n e
theorem Ey.ex0 {M : List Addr} {H H' : Hp} (h : BF.Ex [] H H') : Ey M H H' := fun x o _ e _ => h x o (by simp) e
theorem Ey.N {M : List Addr} {H H' : Hp} (h : LamX.ExtN H H') : Ey M H H' := fun x o _ e t => h x o e t

/-- a list, an instance -/
def IsM (o : HO) : Prop := (∃ vs, o = .lst vs) ∨ ∃ C dx fs, o = .ins C dx fs
theorem IsM.nt {o : HO} (h : IsM o) : ∀ ps, o ≠ .tbl ps := by
  rcases h with ⟨vs, rfl⟩ | ⟨C, dx, fs, rfl⟩ <;> exact nofun
/-- the addresses of M are taken, by lists and instances -/
def AlN (M : List Addr) (H : Hp) : Prop := ∀ x ∈ M, ∃ o, H x = some o ∧ IsM o
theorem AlN.ntup {M : List Addr} {H H' : Hp} {p : Addr} {xs : List V} (a : AlN M H) (e : BF.Ex [] H H') (h : H' p = some (.tup xs)) : p ∉ M := fun z => by
  obtain ⟨o, k, m⟩ := a p z
  rw [e _ _ (by simp) k] at h
  cases h
  rcases m with ⟨vs, m⟩ | ⟨C, dx, fs, m⟩ <;> cases m
theorem AlN.out {M : List Addr} {H : Hp} {p : Addr} (a : AlN M H) (h : H p = none) : p ∉ M := fun z => by
  obtain ⟨o, e, _⟩ := a p z
  rw [e] at h
  cases h
def LsM (_K : PySem.W.Frag) (M : List Addr) (H : Hp) (a : Addr) (vs : List V) : Prop := H a = some (.lst vs) ∧ a ∉ M
def TsM (K : PySem.W.Frag) (M : List Addr) (H : Hp) (a : Addr) (vs : List V) : Prop := SqT K H a vs ∧ (a ∈ M → ∀ H', SqT K H' a vs)
section
variable {K : PySem.W.Frag} {M M' : List Addr} {H H' : Hp} {a p : Addr} {vs : List V}
theorem rd_ey {u : HO} (e : Ey M H H') (n : a ∉ M) (t : ∀ ps, u ≠ .tbl ps) (h : Rd H a u) : Rd H' a u := by
  rcases h with h | ⟨o, h⟩
  · exact .inl (e _ _ n h t)
  · exact .inr ⟨o, e _ _ n h nofun⟩
theorem LsM.ey (h : LsM K M H a vs) (e : Ey M H H') : LsM K M H' a vs := ⟨e _ _ h.2 h.1 nofun, h.2⟩
theorem TsM.ey (h : TsM K M H a vs) (e : Ey M H H') : TsM K M H' a vs := by
  refine ⟨?_, h.2⟩
  by_cases n : a ∈ M
  · exact h.2 n H'
  · rcases h.1 with q | q
    · exact .inl (rd_ey e n nofun q)
    · exact .inr q
theorem LsM.sub (h : LsM K M H a vs) (s : ∀ x ∈ M', x ∈ M) : LsM K M' H a vs := ⟨h.1, fun z => h.2 (s _ z)⟩
theorem TsM.sub (h : TsM K M H a vs) (s : ∀ x ∈ M', x ∈ M) : TsM K M' H a vs := ⟨h.1, fun z => h.2 (s _ z)⟩
theorem LsM.fresh (h : LsM K M H a vs) (hp : H p = none) : LsM K (p :: M) H a vs := ⟨h.1, fun z => (List.mem_cons.mp z).elim (fun e => by
  have q := h.1
  rw [e, hp] at q
  cases q) h.2⟩
theorem TsM.fresh (h : TsM K M H a vs) (hp : H p = none) : TsM K (p :: M) H a vs := ⟨h.1, fun z H' => by
  rcases List.mem_cons.mp z with rfl | z
  · rcases h.1 with (q | ⟨o, q⟩) | q
    · rw [hp] at q; cases q
    · rw [hp] at q; cases q
    · exact .inr q
  · exact h.2 z H'⟩
theorem LsM.of (h : H a = some (.lst vs)) (n : a ∉ M) : LsM K M H a vs := ⟨h, n⟩
theorem TsM.of (h : H a = some (.tup vs)) (n : a ∉ M) : TsM K M H a vs := ⟨SqT.of h, fun z => absurd z n⟩
end
mutual
inductive Dat (K : PySem.W.Frag) (b : Addr) (M : List Addr) (H : Hp) : V → DV → Prop
  | non : Dat K b M H .non .non
  | bl (x : Bool) : Dat K b M H (.bl x) (.bl x)
  | int (i : Int) : Dat K b M H (.int i) (.int i)
  | str (x : Str) : Dat K b M H (.str x) (.str x)
  | lst {a : Addr} {vs : List V} {ds : List DV} : LsM K M H a vs → DatL K b M H vs ds → Dat K b M H (.ref a) (.lst ds)
  | tup {a : Addr} {vs : List V} {ds : List DV} : TsM K M H a vs → DatL K b M H vs ds → Dat K b M H (.ref a) (.tup ds)
  | ins {a dx : Addr} {c : Str} {ns : List Str} {vs : List V} {ds : List DV} : H a = some (.ins (He.ga K c) dx (ns.zip vs)) → a ∉ M → ns.length = vs.length → DatL K b M H vs ds → Dat K b M H (.ref a) (.ins c ns ds)
  | exc {a dx : Addr} {c : Str} {ns : List Str} {vs : List V} {ds : List DV} : H a = some (exo a (He.ga K c) (some dx)) → H dx = some (exd dx (ns.zip vs)) → a ∉ M → dx ∉ M → ns.length = vs.length → DatL K b M H vs ds → Dat K b M H (.ref a) (.exc c ns ds)
  | bag : Dat K b M H (.ref b) .bag
  | tupz {a : Addr} {o : Obj} {vs : List V} {ds : List DV} : H a = some (.frz o (.tup vs)) → o.dict = none → a ∉ M → DatL K b M H vs ds → Dat K b M H (.ref a) (.tupz ds)
  | ty (n : String) : Dat K b M H (.ty n) (.ty n)
  | cls (c : Str) : Dat K b M H (.ref (He.ga K c)) (.cls c)
inductive DatL (K : PySem.W.Frag) (b : Addr) (M : List Addr) (H : Hp) : List V → List DV → Prop
  | nil : DatL K b M H [] []
  | cons {v : V} {vs : List V} {d : DV} {ds : List DV} : Dat K b M H v d → DatL K b M H vs ds → DatL K b M H (v :: vs) (d :: ds)
end
section
variable {K : PySem.W.Frag} {b p : Addr} {M M' : List Addr} {H H' : Hp}
mutual
theorem Dat.ey (e : Ey M H H') : ∀ {v : V} {d : DV}, Dat K b M H v d → Dat K b M H' v d
  | _, _, .non => .non
  | _, _, .bl x => .bl x
  | _, _, .int i => .int i
  | _, _, .str x => .str x
  | _, _, .lst h l => .lst (h.ey e) (DatL.ey e l)
  | _, _, .tup h l => .tup (h.ey e) (DatL.ey e l)
  | _, _, .tupz h d n l => .tupz (e _ _ n h nofun) d n (DatL.ey e l)
  | _, _, .ins h n z l => .ins (e _ _ n h nofun) n z (DatL.ey e l)
  | _, _, .exc h h2 n n2 z l => .exc (e _ _ n h nofun) (e _ _ n2 h2 nofun) n n2 z (DatL.ey e l)
  | _, _, .bag => .bag
  | _, _, .ty n => .ty n
  | _, _, .cls c => .cls c
theorem DatL.ey (e : Ey M H H') : ∀ {vs : List V} {ds : List DV}, DatL K b M H vs ds → DatL K b M H' vs ds
  | _, _, .nil => .nil
  | _, _, .cons h l => .cons (Dat.ey e h) (DatL.ey e l)
end
mutual
theorem Dat.sub (s : ∀ x ∈ M', x ∈ M) : ∀ {v : V} {d : DV}, Dat K b M H v d → Dat K b M' H v d
  | _, _, .non => .non
  | _, _, .bl x => .bl x
  | _, _, .int i => .int i
  | _, _, .str x => .str x
  | _, _, .lst h l => .lst (h.sub s) (DatL.sub s l)
  | _, _, .tup h l => .tup (h.sub s) (DatL.sub s l)
  | _, _, .tupz h d n l => .tupz h d (fun q => n (s _ q)) (DatL.sub s l)
  | _, _, .ins h n z l => .ins h (fun q => n (s _ q)) z (DatL.sub s l)
  | _, _, .exc h h2 n n2 z l => .exc h h2 (fun q => n (s _ q)) (fun q => n2 (s _ q)) z (DatL.sub s l)
  | _, _, .bag => .bag
  | _, _, .ty n => .ty n
  | _, _, .cls c => .cls c
theorem DatL.sub (s : ∀ x ∈ M', x ∈ M) : ∀ {vs : List V} {ds : List DV}, DatL K b M H vs ds → DatL K b M' H vs ds
  | _, _, .nil => .nil
  | _, _, .cons h l => .cons (Dat.sub s h) (DatL.sub s l)
end
theorem ne_none {a : Addr} {o : HO} (h : H a = some o) (hp : H p = none) : a ≠ p := fun z => by
  rw [z, hp] at h
  cases h
mutual
theorem Dat.fresh (hp : H p = none) : ∀ {v : V} {d : DV}, Dat K b M H v d → Dat K b (p :: M) H v d
  | _, _, .non => .non
  | _, _, .bl x => .bl x
  | _, _, .int i => .int i
  | _, _, .str x => .str x
  | _, _, .lst h l => .lst (h.fresh hp) (DatL.fresh hp l)
  | _, _, .tup h l => .tup (h.fresh hp) (DatL.fresh hp l)
  | _, _, .tupz h d n l => .tupz h d (fun q => (List.mem_cons.mp q).elim (ne_none h hp) n) (DatL.fresh hp l)
  | _, _, .ins h n z l => .ins h (fun q => (List.mem_cons.mp q).elim (ne_none h hp) n) z (DatL.fresh hp l)
  | _, _, .exc h h2 n n2 z l => .exc h h2 (fun q => (List.mem_cons.mp q).elim (ne_none h hp) n) (fun q => (List.mem_cons.mp q).elim (ne_none h2 hp) n2) z (DatL.fresh hp l)
  | _, _, .bag => .bag
  | _, _, .ty n => .ty n
  | _, _, .cls c => .cls c
theorem DatL.fresh (hp : H p = none) : ∀ {vs : List V} {ds : List DV}, DatL K b M H vs ds → DatL K b (p :: M) H vs ds
  | _, _, .nil => .nil
  | _, _, .cons h l => .cons (Dat.fresh hp h) (DatL.fresh hp l)
end
mutual
/-- what of a datum is told without that knowledge -/
def fgt : DV → DV
  | .lst ds => .lst (fgtL ds)
  | .tup ds => .tup (fgtL ds)
  | .tupz ds => .tup (fgtL ds)
  | .ins c ns ds => .ins c ns (fgtL ds)
  | .exc c ns ds => .exc c ns (fgtL ds)
  | .non => .non
  | .bl x => .bl x
  | .int i => .int i
  | .str x => .str x
  | .bag => .bag
  | .ty n => .ty n
  | .cls c => .cls c
def fgtL : List DV → List DV
  | [] => []
  | d :: ds => fgt d :: fgtL ds
end
mutual
theorem Dat.fgt : ∀ {v : V} {d : DV}, Dat K b M H v d → Dat K b M H v (fgt d)
  | _, _, .non => .non
  | _, _, .bl x => .bl x
  | _, _, .int i => .int i
  | _, _, .str x => .str x
  | _, _, .lst h l => .lst h (DatL.fgt l)
  | _, _, .tup h l => .tup h (DatL.fgt l)
  | _, _, .tupz h d n l => .tup ⟨.inl (.inr ⟨_, h⟩), fun z => absurd z n⟩ (DatL.fgt l)
  | _, _, .ins h n z l => .ins h n (by rw [z]) (DatL.fgt l)
  | _, _, .exc h h2 n n2 z l => .exc h h2 n n2 (by rw [z]) (DatL.fgt l)
  | _, _, .bag => .bag
  | _, _, .ty n => .ty n
  | _, _, .cls c => .cls c
theorem DatL.fgt : ∀ {vs : List V} {ds : List DV}, DatL K b M H vs ds → DatL K b M H vs (fgtL ds)
  | _, _, .nil => .nil
  | _, _, .cons h l => .cons (Dat.fgt h) (DatL.fgt l)
end
theorem DatL.length : ∀ {vs : List V} {ds : List DV}, DatL K b M H vs ds → vs.length = ds.length
  | _, _, .nil => rfl
  | _, _, .cons _ l => congrArg Nat.succ (DatL.length l)
theorem DatL.get : ∀ {vs : List V} {ds : List DV} {i : Nat} {v : V}, DatL K b M H vs ds → vs[i]? = some v → ∃ d, ds[i]? = some d ∧ Dat K b M H v d
  | _, _, i, _, .nil, e => by simp at e
  | _, _, 0, _, .cons h _, e => by
    simp at e
    subst e
    exact ⟨_, rfl, h⟩
  | _, _, i + 1, _, .cons _ l, e => by
    obtain ⟨d, h1, h2⟩ := DatL.get (i := i) l (by simpa using e)
    exact ⟨d, by simpa using h1, h2⟩
theorem DatL.at : ∀ {vs : List V} {ds : List DV} {i : Nat} {d : DV}, DatL K b M H vs ds → ds[i]? = some d → ∃ v, vs[i]? = some v ∧ Dat K b M H v d
  | _, _, i, _, .nil, e => by simp at e
  | _, _, 0, _, .cons h _, e => by
    simp at e
    subst e
    exact ⟨_, rfl, h⟩
  | _, _, i + 1, _, .cons _ l, e => by
    obtain ⟨d, h1, h2⟩ := DatL.at (i := i) l (by simpa using e)
    exact ⟨d, by simpa using h1, h2⟩
theorem DatL.app : ∀ {vs vs' : List V} {ds ds' : List DV}, DatL K b M H vs ds → DatL K b M H vs' ds' → DatL K b M H (vs ++ vs') (ds ++ ds')
  | _, _, _, _, .nil, h => h
  | _, _, _, _, .cons a l, h => .cons a (DatL.app l h)
theorem DatL.drop : ∀ {vs : List V} {ds : List DV} (n : Nat), DatL K b M H vs ds → DatL K b M H (vs.drop n) (ds.drop n)
  | _, _, 0, h => h
  | _, _, _ + 1, .nil => .nil
  | _, _, n + 1, .cons _ l => DatL.drop n l
theorem DatL.take : ∀ {vs : List V} {ds : List DV} (n : Nat), DatL K b M H vs ds → DatL K b M H (vs.take n) (ds.take n)
  | _, _, 0, _ => .nil
  | _, _, _ + 1, .nil => .nil
  | _, _, n + 1, .cons a l => .cons a (DatL.take n l)
theorem DatL.set : ∀ {vs : List V} {ds : List DV} {v : V} {d : DV} (i : Nat), DatL K b M H vs ds → Dat K b M H v d → DatL K b M H (vs.set i v) (ds.set i d)
  | _, _, _, _, _, .nil, _ => .nil
  | _, _, _, _, 0, .cons _ l, h => .cons h l
  | _, _, _, _, i + 1, .cons a l, h => .cons a (DatL.set i l h)
theorem DatL.rev : ∀ {vs : List V} {ds : List DV}, DatL K b M H vs ds → DatL K b M H vs.reverse ds.reverse
  | _, _, .nil => .nil
  | _, _, .cons a l => by
    rw [List.reverse_cons, List.reverse_cons]
    exact DatL.app (DatL.rev l) (.cons a .nil)
theorem DatL.ints : ∀ (ns : List Int), DatL K b M H (ns.map V.int) (ns.map DV.int)
  | [] => .nil
  | n :: ns => .cons (.int n) (DatL.ints ns)
end
/-! ### what runs -/
/-- what a slot holds: data, a list of the def's own that nothing else reaches, an instance of its own -/
inductive SV where
  | d (x : DV) | own (xs : List DV) | self (z : Addr) (c : Str) (ns : List Str) (ds : List DV) | fix (vs : List V) (xs : List DV)
abbrev ST := List (Option SV)
abbrev XV := Str → List Str → List DV → Int → Prop
/-- the law's own: the written part, the bag's place, what the bag leans on, its state by the count of draws, the lambdas' tables -/
structure Cf where
  b : Addr
  bx : List Addr
  B : Hp → Int → Prop
  Bk : ∀ {H H' : Hp} {n : Int}, (∀ x o, x ∈ bx → H x = some o → H' x = some o) → B H n → B H' n
  bb : b ∈ bx
  Ba : ∀ {H : Hp} {n : Int}, B H n → ∀ x ∈ bx, ∃ o, H x = some o ∧ ∀ ps, o ≠ .tbl ps
  T : List (Addr × Str)
/-- a def that runs: Md what its caller lets it change, M0 what stays apart, H0 the heap at its entry, what is wanted of an exception -/
structure Wc extends Cf where
  Md : List Addr
  M0 : List Addr
  H0 : Hp
  bm : b ∈ M0
  bd : b ∈ Md
  E' : XV
  E : XK
/-- known of the whole run -/
inductive Gh where
  | d (v : V) (x : DV) | dl (vs : List V) (ds : List DV) | l (a : Addr) (vs : List V) (ds : List DV) | t (a : Addr) (vs : List V) (ds : List DV) | o (j : Nat) (a : Addr) (vs : List V) (ds : List DV)
abbrev Om := List (Nat × Addr)
def ad (O : Om) : List Addr := O.map (·.2)
def GhOk (K : PySem.W.Frag) (b : Addr) (O : Om) (M : List Addr) (H : Hp) : Gh → Prop
  | .d v x => Dat K b M H v x
  | .dl vs ds => DatL K b M H vs ds
  | .l a vs ds => LsM K M H a vs ∧ DatL K b M H vs ds
  | .t a vs ds => TsM K M H a vs ∧ DatL K b M H vs ds
  | .o j a vs ds => 1000000 ≤ j ∧ (j, a) ∈ O ∧ H a = some (.lst vs) ∧ DatL K b M H vs ds
def SlOk (K : PySem.W.Frag) (b : Addr) (O : Om) (M : List Addr) (H : Hp) (i : Nat) (v : V) : SV → Prop
  | .d x => Dat K b M H v x
  | .own xs => ∃ a vs, v = .ref a ∧ (i, a) ∈ O ∧ H a = some (.lst vs) ∧ DatL K b M H vs xs
  | .self z c ns ds => ∃ dx vs, v = .ref z ∧ (i, z) ∈ O ∧ H z = some (.ins (He.ga K c) dx (ns.zip vs)) ∧ ns.length = vs.length ∧ DatL K b M H vs ds
  | .fix vs xs => ∃ a, v = .ref a ∧ LsM K M H a vs ∧ DatL K b M H vs xs
/-- an address that a slot may own -/
def OwnC (W : Wc) (a : Addr) : Prop := (∀ o, W.H0 a = some o → a ∈ W.Md ∨ ∃ ps, o = .tbl ps) ∧ a ∉ W.M0 ∧ a ∉ W.bx
structure Rel (K : PySem.W.Frag) (W : Wc) (Γ : List Gh) (O : Om) (L : List Addr) (τ : ST) (n : Int) (σ : L2.St) (H : Hp) : Prop where
  len : τ.length = σ.length
  few : τ.length < 1000000
  slot : ∀ (i : Nat) (s : SV), τ[i]? = some (some s) → ∃ v, σ[i]? = some (some v) ∧ SlOk K W.b O (L ++ ad O ++ W.M0) H i v s
  gh : ∀ g ∈ Γ, GhOk K W.b O (L ++ ad O ++ W.M0) H g
  nd : (ad O).Nodup
  own : ∀ p ∈ O, OwnC W p.2
  ext : Ey W.Md W.H0 H
  bag : W.B H n
  bag0 : ∃ n0, W.B W.H0 n0
  tab : LamX.Tabs W.T H
  al : AlN (ad O ++ W.M0) H
  al0 : AlN W.M0 W.H0
  mdb : ∀ x ∈ W.Md, x = W.b ∨ x ∉ W.M0
section
variable {K : PySem.W.Frag} {W : Wc} {Γ Γ' : List Gh} {O : Om} {L : List Addr} {τ : ST} {n : Int} {σ : L2.St} {H H' : Hp}
theorem GhOk.ey {b : Addr} {M Ch : List Addr} {g : Gh} (h : GhOk K b O M H g) (e : Ey Ch H H') (s : ∀ x ∈ Ch, x ∈ M) (so : ∀ j a vs ds, g = .o j a vs ds → a ∉ Ch) : GhOk K b O M H' g := by
  have e' : Ey M H H' := e.sub s
  cases g with
  | d v x => exact Dat.ey e' h
  | dl vs ds => exact DatL.ey e' h
  | l a vs ds => exact ⟨h.1.ey e', DatL.ey e' h.2⟩
  | t a vs ds => exact ⟨h.1.ey e', DatL.ey e' h.2⟩
  | o j a vs ds => exact ⟨h.1, h.2.1, e _ _ (so j a vs ds rfl) h.2.2.1 nofun, DatL.ey e' h.2.2.2⟩
theorem SlOk.ey {b : Addr} {M Ch : List Addr} {i : Nat} {v : V} {s : SV} (h : SlOk K b O M H i v s) (e : Ey Ch H H') (sm : ∀ x ∈ Ch, x ∈ M) (so : ∀ a, (i, a) ∈ O → a ∉ Ch) : SlOk K b O M H' i v s := by
  have e' : Ey M H H' := e.sub sm
  cases s with
  | d x => exact Dat.ey e' h
  | own xs =>
    obtain ⟨a, vs, e1, e2, e3, e4⟩ := h
    exact ⟨a, vs, e1, e2, e _ _ (so a e2) e3 nofun, DatL.ey e' e4⟩
  | self z c ns ds =>
    obtain ⟨dx, vs, e1, e2, e3, e4, e5⟩ := h
    exact ⟨dx, vs, e1, e2, e _ _ (so z e2) e3 nofun, e4, DatL.ey e' e5⟩
  | fix vs xs =>
    obtain ⟨a, e1, e2, e3⟩ := h
    exact ⟨a, e1, e2.ey e', DatL.ey e' e3⟩
/-- the heap goes on: what changes is Ch, not the slots' own -/
theorem Rel.step (r : Rel K W Γ O L τ n σ H) {n' : Int} (e : Ey [W.b] H H') (hb : W.B H' n') (ht : LamX.Tabs W.T H') (ha : AlN (ad O ++ W.M0) H') : Rel K W Γ O L τ n' σ H' := by
  have sb : ∀ x ∈ [W.b], x ∈ L ++ ad O ++ W.M0 := fun x hx => by
    rw [List.mem_singleton.mp hx]
    exact List.mem_append_right _ W.bm
  have nob : ∀ {j a}, (j, a) ∈ O → a ∉ [W.b] := fun {j a} hj z => by
    rw [List.mem_singleton] at z
    exact (r.own _ hj).2.1 (z ▸ W.bm)
  have e' := e.sub sb
  refine ⟨r.len, r.few, fun i s hs => ?_, fun g hg => (r.gh g hg).ey e sb fun j a vs ds eg => ?_, r.nd, r.own, r.ext.tr (e.sub fun x hx => by rw [List.mem_singleton.mp hx]; exact W.bd), hb, r.bag0, ht, ha, r.al0, r.mdb⟩
  · obtain ⟨v, hv, k⟩ := r.slot i s hs
    exact ⟨v, hv, k.ey e sb fun a ha => nob ha⟩
  · subst eg
    exact nob (r.gh _ hg).2.1
theorem Rel.ex (r : Rel K W Γ O L τ n σ H) (e : BF.Ex [] H H') : Rel K W Γ O L τ n σ H' :=
  r.step (Ey.ex0 e) (W.Bk (fun x o _ h => e x o (by simp) h) r.bag) (BF.tabs_ex0 e r.tab) fun x hx => by
    obtain ⟨o, h, t⟩ := r.al x hx
    exact ⟨o, e _ _ (by simp) h, t⟩
/-- a ghost more -/
theorem Rel.gcons (r : Rel K W Γ O L τ n σ H) {g : Gh} (h : GhOk K W.b O (L ++ ad O ++ W.M0) H g) : Rel K W (g :: Γ) O L τ n σ H :=
  ⟨r.len, r.few, r.slot, fun x hx => (List.mem_cons.mp hx).elim (fun e => e ▸ h) (r.gh x), r.nd, r.own, r.ext, r.bag, r.bag0, r.tab, r.al, r.al0, r.mdb⟩
theorem Rel.gapp (r : Rel K W Γ O L τ n σ H) (h : ∀ g ∈ Γ', GhOk K W.b O (L ++ ad O ++ W.M0) H g) : Rel K W (Γ' ++ Γ) O L τ n σ H :=
  ⟨r.len, r.few, r.slot, fun x hx => (List.mem_append.mp hx).elim (h x) (r.gh x), r.nd, r.own, r.ext, r.bag, r.bag0, r.tab, r.al, r.al0, r.mdb⟩
theorem Rel.gsub (r : Rel K W Γ O L τ n σ H) (h : ∀ g ∈ Γ', g ∈ Γ) : Rel K W Γ' O L τ n σ H :=
  ⟨r.len, r.few, r.slot, fun x hx => r.gh x (h x hx), r.nd, r.own, r.ext, r.bag, r.bag0, r.tab, r.al, r.al0, r.mdb⟩
theorem Rel.tail {g : Gh} (r : Rel K W (g :: Γ) O L τ n σ H) : Rel K W Γ O L τ n σ H := r.gsub fun _ h => List.mem_cons_of_mem _ h
theorem Rel.rest (r : Rel K W (Γ' ++ Γ) O L τ n σ H) : Rel K W Γ O L τ n σ H := r.gsub fun _ h => List.mem_append_right _ h
theorem Rel.head {v : V} {d : DV} (r : Rel K W (.d v d :: Γ) O L τ n σ H) : Dat K W.b (L ++ ad O ++ W.M0) H v d := r.gh (.d v d) List.mem_cons_self
/-- a new address is in nothing -/
theorem Rel.newO (r : Rel K W Γ O L τ n σ H) {p : Addr} (hp : H p = none) : p ∉ ad O ++ W.M0 := r.al.out hp
theorem GhOk.fresh {b p : Addr} {M : List Addr} {g : Gh} (h : GhOk K b O M H g) (hp : H p = none) : GhOk K b O (p :: M) H g := by
  cases g with
  | d v x => exact Dat.fresh hp h
  | dl vs ds => exact DatL.fresh hp h
  | l a vs ds => exact ⟨h.1.fresh hp, DatL.fresh hp h.2⟩
  | t a vs ds => exact ⟨h.1.fresh hp, DatL.fresh hp h.2⟩
  | o j a vs ds => exact ⟨h.1, h.2.1, h.2.2.1, DatL.fresh hp h.2.2.2⟩
theorem SlOk.fresh {b p : Addr} {M : List Addr} {i : Nat} {v : V} {s : SV} (h : SlOk K b O M H i v s) (hp : H p = none) : SlOk K b O (p :: M) H i v s := by
  cases s with
  | d x => exact Dat.fresh hp h
  | own xs =>
    obtain ⟨a, vs, e1, e2, e3, e4⟩ := h
    exact ⟨a, vs, e1, e2, e3, DatL.fresh hp e4⟩
  | self z c ns ds =>
    obtain ⟨dx, vs, e1, e2, e3, e4, e5⟩ := h
    exact ⟨dx, vs, e1, e2, e3, e4, DatL.fresh hp e5⟩
  | fix vs xs =>
    obtain ⟨a, e1, e2, e3⟩ := h
    exact ⟨a, e1, e2.fresh hp, DatL.fresh hp e3⟩
theorem SlOk.sub {b : Addr} {M M' : List Addr} {O' : Om} {i : Nat} {v : V} {s : SV} (h : SlOk K b O M H i v s) (sm : ∀ x ∈ M', x ∈ M) (so : ∀ a, (i, a) ∈ O → (i, a) ∈ O') : SlOk K b O' M' H i v s := by
  cases s with
  | d x => exact Dat.sub sm h
  | own xs =>
    obtain ⟨a, vs, e1, e2, e3, e4⟩ := h
    exact ⟨a, vs, e1, so a e2, e3, DatL.sub sm e4⟩
  | self z c ns ds =>
    obtain ⟨dx, vs, e1, e2, e3, e4, e5⟩ := h
    exact ⟨dx, vs, e1, so z e2, e3, e4, DatL.sub sm e5⟩
  | fix vs xs =>
    obtain ⟨a, e1, e2, e3⟩ := h
    exact ⟨a, e1, e2.sub sm, DatL.sub sm e3⟩
theorem GhOk.sub {b : Addr} {M M' : List Addr} {O' : Om} {g : Gh} (h : GhOk K b O M H g) (s : ∀ x ∈ M', x ∈ M) (so : ∀ j a, 1000000 ≤ j → (j, a) ∈ O → (j, a) ∈ O') : GhOk K b O' M' H g := by
  cases g with
  | d v x => exact Dat.sub s h
  | dl vs ds => exact DatL.sub s h
  | l a vs ds => exact ⟨h.1.sub s, DatL.sub s h.2⟩
  | t a vs ds => exact ⟨h.1.sub s, DatL.sub s h.2⟩
  | o j a vs ds => exact ⟨h.1, so _ _ h.1 h.2.1, h.2.2.1, DatL.sub s h.2.2.2⟩
end
end VF
/-! ## Readings of expressions by data alone -/
namespace VF
open PySem PySem.Spec PyProof.Rows L2
abbrev WE := ST → Int → (DV → ST → Int → Prop) → Prop
abbrev WT := ST → Int → (Bool → ST → Int → Prop) → Prop
abbrev WA := ST → Int → (List DV → ST → Int → Prop) → Prop
def liftE (K : PySem.W.Frag) (W : Wc) (w : WE) : TE := fun σ H Q => ∃ Γ O τ n Q', Rel K W Γ O [] τ n σ H ∧ w τ n Q' ∧ ∀ v H' d O' τ' n', Rel K W Γ O' [] τ' n' σ H' → Dat K W.b (ad O' ++ W.M0) H' v d → Q' d τ' n' → Q v H'
def liftT (K : PySem.W.Frag) (W : Wc) (w : WT) : L2.TT := fun σ H Q => ∃ Γ O τ n Q', Rel K W Γ O [] τ n σ H ∧ w τ n Q' ∧ ∀ b H' O' τ' n', Rel K W Γ O' [] τ' n' σ H' → Q' b τ' n' → Q b H'
def liftA (K : PySem.W.Frag) (W : Wc) (w : WA) : TA := fun σ H Q => ∃ Γ O τ n Q', Rel K W Γ O [] τ n σ H ∧ w τ n Q' ∧ ∀ vs H' ds O' τ' n', Rel K W Γ O' [] τ' n' σ H' → DatL K W.b (ad O' ++ W.M0) H' vs ds → Q' ds τ' n' → Q vs H'
/-- a list that is new, and no one else's -/
def liftO (K : PySem.W.Frag) (W : Wc) (w : WA) : TE := fun σ H Q => ∃ Γ O τ n Q', Rel K W Γ O [] τ n σ H ∧ w τ n Q' ∧ ∀ a vs H' ds O' τ' n', Rel K W Γ O' [a] τ' n' σ H' → H' a = some (.lst vs) → a ∉ ad O' ++ W.M0 → OwnC W a → DatL K W.b (a :: (ad O' ++ W.M0)) H' vs ds → Q' ds τ' n' → Q (.ref a) H'
def DOp (K : PySem.W.Frag) (r : R2) (w : DV → DV → (DV → Prop) → Prop) : Prop := ∀ b M H x y d e Q' (Q : VK), AlN M H → Dat K b M H x d → Dat K b M H y e → w d e Q' → (∀ z H' f, BF.Ex [] H H' → Dat K b M H' z f → Q' f → Q z H') → r x y H Q
def DUn (K : PySem.W.Frag) (r : V → Hp → VK → Prop) (w : DV → (DV → Prop) → Prop) : Prop := ∀ b M H x d Q' (Q : VK), AlN M H → Dat K b M H x d → w d Q' → (∀ z H' f, BF.Ex [] H H' → Dat K b M H' z f → Q' f → Q z H') → r x H Q
def DCall (K : PySem.W.Frag) (r : List V → Hp → VK → Prop) (w : List DV → (DV → Prop) → Prop) : Prop := ∀ b M H xs ds Q' (Q : VK), AlN M H → DatL K b M H xs ds → w ds Q' → (∀ z H' f, BF.Ex [] H H' → Dat K b M H' z f → Q' f → Q z H') → r xs H Q
def DSl (K : PySem.W.Frag) (r : V → Option Int → Option Int → Hp → VK → Prop) (w : DV → Option Int → Option Int → (DV → Prop) → Prop) : Prop := ∀ b M H x d l u Q' (Q : VK), AlN M H → Dat K b M H x d → w d l u Q' → (∀ z H' f, BF.Ex [] H H' → Dat K b M H' z f → Q' f → Q z H') → r x l u H Q
/-! the readings -/
def wVar (i : Nat) : WE := fun τ n Q => ∃ s, τ[i]? = some (some s) ∧ match s with
  | .d x => Q x τ n
  | .own xs => Q (.lst xs) (τ.set i (some (.d (.lst xs)))) n
  | .self _ c ns ds => Q (.ins c ns ds) (τ.set i (some (.d (.ins c ns ds)))) n
  | .fix _ xs => Q (.lst xs) τ n
def wC (d : DV) : WE := fun τ n Q => Q d τ n
def wOp (w : DV → DV → (DV → Prop) → Prop) (wa wb : WE) : WE := fun τ n Q => wa τ n fun d τ1 n1 => wb τ1 n1 fun e τ2 n2 => w d e fun f => Q f τ2 n2
def wUn (w : DV → (DV → Prop) → Prop) (wa : WE) : WE := fun τ n Q => wa τ n fun d τ1 n1 => w d fun f => Q f τ1 n1
def wNil : WA := fun τ n Q => Q [] τ n
def wCons (we : WE) (wr : WA) : WA := fun τ n Q => we τ n fun d τ1 n1 => wr τ1 n1 fun ds τ2 n2 => Q (d :: ds) τ2 n2
def wCB (w : List DV → (DV → Prop) → Prop) (wa : WA) : WE := fun τ n Q => wa τ n fun ds τ1 n1 => w ds fun f => Q f τ1 n1
def wTup (wa : WA) : WE := fun τ n Q => wa τ n fun ds τ1 n1 => ds.length ≤ 1000000 ∧ Q (.tup ds) τ1 n1
def wLst (wa : WA) : WE := fun τ n Q => wa τ n fun ds τ1 n1 => ds.length ≤ 1000000 ∧ Q (.lst ds) τ1 n1
def wLstO (wa : WA) : WA := fun τ n Q => wa τ n fun ds τ1 n1 => ds.length ≤ 1000000 ∧ Q ds τ1 n1
def wB (we : WE) : WT := fun τ n Q => we τ n fun d τ1 n1 => ∃ b, d = .bl b ∧ Q b τ1 n1
def wAnd (t u : WT) : WT := fun τ n Q => t τ n fun c τ1 n1 => if c = true then u τ1 n1 Q else Q false τ1 n1
def wOr (t u : WT) : WT := fun τ n Q => t τ n fun c τ1 n1 => if c = true then Q true τ1 n1 else u τ1 n1 Q
def wNot (t : WT) : WT := fun τ n Q => t τ n fun c τ1 n1 => Q (!c) τ1 n1
def wAndV (ta tb : WE) : WE := fun τ n Q => ta τ n fun d τ1 n1 => ∃ c, d = .bl c ∧ if c = true then tb τ1 n1 Q else Q (.bl false) τ1 n1
def wOrV (ta tb : WE) : WE := fun τ n Q => ta τ n fun d τ1 n1 => ∃ c, d = .bl c ∧ if c = true then Q (.bl true) τ1 n1 else tb τ1 n1 Q
def wNotV (ta : WE) : WE := fun τ n Q => ta τ n fun d τ1 n1 => ∃ c, d = .bl c ∧ Q (.bl (!c)) τ1 n1
def wIf (t : WT) (wa wb : WE) : WE := fun τ n Q => t τ n fun c τ1 n1 => if c = true then wa τ1 n1 Q else wb τ1 n1 Q
def wP (o : Option WE) : ST → Int → (Option Int → ST → Int → Prop) → Prop := fun τ n R => match o with
  | none => R none τ n
  | some we => we τ n fun x τ1 n1 => ∃ i, x = .int i ∧ R (some i) τ1 n1
def wSl (w : DV → Option Int → Option Int → (DV → Prop) → Prop) (wa : WE) (wl wh : Option WE) : WE := fun τ n Q => wa τ n fun d τ1 n1 => wP wl τ1 n1 fun l τ2 n2 => wP wh τ2 n2 fun u τ3 n3 => w d l u fun f => Q f τ3 n3
def wChain (w w' : DV → DV → (DV → Prop) → Prop) (wa wb wc : WE) : WE := fun τ n Q => wa τ n fun d τ1 n1 => wb τ1 n1 fun e τ2 n2 => w d e fun f => ∃ k, f = .bl k ∧ (if k = true then wc τ2 n2 fun g τ3 n3 => w' e g fun z => Q z τ3 n3 else Q (.bl false) τ2 n2)
section
variable {K : PySem.W.Frag} {W : Wc} {X : Cx} {a b c e : Expr} {es : List Expr} {wa wb wc we : WE} {wr : WA} {pos : Pos} {r r' : R2} {w w' : DV → DV → (DV → Prop) → Prop}
theorem Rel.al' {Γ : List Gh} {O : Om} {L : List Addr} {τ : ST} {n : Int} {σ : L2.St} {H : Hp} (q : Rel K W Γ O L τ n σ H) : AlN (ad O ++ W.M0) H := q.al
theorem lift_c {v : V} {d : DV} (h : PE X e (tC v)) (hd : ∀ b M H, Dat K b M H v d) : PE X e (liftE K W (wC d)) := BF.PE.imp h fun σ H Q ⟨Γ, O, τ, n, Q', q, hw, k⟩ => k v H d O τ n q (hd _ _ _) hw
theorem ve_int {i : Int} (h : PE X e (tC (.int i))) : PE X e (liftE K W (wC (.int i))) := lift_c h fun _ _ _ => .int i
theorem ve_bl {i : Bool} (h : PE X e (tC (.bl i))) : PE X e (liftE K W (wC (.bl i))) := lift_c h fun _ _ _ => .bl i
theorem ve_str {i : Str} (h : PE X e (tC (.str i))) : PE X e (liftE K W (wC (.str i))) := lift_c h fun _ _ _ => .str i
theorem ve_non (h : PE X e (tC .non)) : PE X e (liftE K W (wC .non)) := lift_c h fun _ _ _ => .non
theorem ve_ty {s : String} (h : PE X e (tC (.ty s))) : PE X e (liftE K W (wC (.ty s))) := lift_c h fun _ _ _ => .ty s
theorem ve_cls {s : Str} (h : PE X e (tC (.ref (He.ga K s)))) : PE X e (liftE K W (wC (.cls s))) := lift_c h fun _ _ _ => .cls s
/-- a slot's own list is handed on: it is no one's own any more -/
theorem Rel.give {Γ : List Gh} {O : Om} {τ : ST} {n : Int} {σ : L2.St} {H : Hp} (q : Rel K W Γ O [] τ n σ H) {i : Nat} {x : DV} {s : SV} (hs : τ[i]? = some (some s)) (hx : ∀ v (O' : Om), (∀ p ∈ O', p ∈ O) → (∀ p ∈ O', p.1 ≠ i) → (∀ j a, (j, a) ∈ O → j ≠ i → (j, a) ∈ O') → (ad O').Nodup → SlOk K W.b O (ad O ++ W.M0) H i v s → Dat K W.b (ad O' ++ W.M0) H v x) :
    ∃ v O', σ[i]? = some (some v) ∧ Rel K W Γ O' [] (τ.set i (some (.d x))) n σ H ∧ Dat K W.b (ad O' ++ W.M0) H v x := by
  obtain ⟨v, hv, k⟩ := q.slot i s hs
  have hi : i < τ.length := (List.getElem?_eq_some_iff.mp hs).1
  have hm : ∀ p ∈ O.filter (fun p => decide (p.1 ≠ i)), p ∈ O := fun p hp => (List.mem_filter.mp hp).1
  have hn : ∀ p ∈ O.filter (fun p => decide (p.1 ≠ i)), p.1 ≠ i := fun p hp => of_decide_eq_true (List.mem_filter.mp hp).2
  have hk : ∀ j a, (j, a) ∈ O → j ≠ i → (j, a) ∈ O.filter (fun p => decide (p.1 ≠ i)) := fun j a h1 h2 => List.mem_filter.mpr ⟨h1, decide_eq_true h2⟩
  have hnd : (ad (O.filter (fun p => decide (p.1 ≠ i)))).Nodup := q.nd.sublist (List.Sublist.map _ List.filter_sublist)
  have sM : ∀ y ∈ ad (O.filter (fun p => decide (p.1 ≠ i))) ++ W.M0, y ∈ ad O ++ W.M0 := fun y hy => by
    rcases List.mem_append.mp hy with hy | hy
    · obtain ⟨p, hp, e⟩ := List.mem_map.mp hy
      exact List.mem_append_left _ (List.mem_map.mpr ⟨p, hm p hp, e⟩)
    · exact List.mem_append_right _ hy
  have hd := hx v _ hm hn hk hnd k
  refine ⟨v, _, hv, ⟨by rw [List.length_set]; exact q.len, by rw [List.length_set]; exact q.few, fun j s' hj => ?_, fun g hg => (q.gh g hg).sub sM fun j a h1 h2 => hk j a h2 (by have := q.few; omega), hnd, fun p hp => q.own p (hm p hp), q.ext, q.bag, q.bag0, q.tab, fun y hy => q.al y (sM y hy), q.al0, q.mdb⟩, hd⟩
  by_cases e : j = i
  · subst e
    rw [List.getElem?_set_self hi] at hj
    cases hj
    exact ⟨v, hv, hd⟩
  · rw [List.getElem?_set_ne (Ne.symm e)] at hj
    obtain ⟨u, hu, k'⟩ := q.slot j s' hj
    exact ⟨u, hu, k'.sub sM fun a ha => hk j a ha e⟩
theorem nd_out {O O' : Om} {i : Nat} {a : Addr} (nd : (ad O).Nodup) (h : (i, a) ∈ O) (hm : ∀ p ∈ O', p ∈ O) (hn : ∀ p ∈ O', p.1 ≠ i) : a ∉ ad O' := fun z => by
  obtain ⟨p, hp, e⟩ := List.mem_map.mp z
  have h1 := hm p hp
  have inj : ∀ (O : Om), (ad O).Nodup → ∀ p q : Nat × Addr, p ∈ O → q ∈ O → p.2 = q.2 → p = q := by
    intro O
    induction O with
    | nil => intro _ _ _ h; cases h
    | cons x O ih =>
      intro nd p q hp hq e
      obtain ⟨n1, n2⟩ := List.nodup_cons.mp nd
      rcases List.mem_cons.mp hp with e1 | h1
      · rcases List.mem_cons.mp hq with e2 | h2
        · rw [e1, e2]
        · exact absurd (List.mem_map.mpr ⟨q, h2, by rw [← e, e1]⟩) n1
      · rcases List.mem_cons.mp hq with e2 | h2
        · exact absurd (List.mem_map.mpr ⟨p, h1, by rw [e, e2]⟩) n1
        · exact ih n2 p q h1 h2 e
  have := inj O nd p (i, a) h1 h e
  exact hn p hp (by rw [this])
theorem ve_var {i : Nat} (h : PE X e (tVar i)) : PE X e (liftE K W (wVar i)) := BF.PE.imp h fun σ H Q ⟨Γ, O, τ, n, Q', q, ⟨s, hs, hw⟩, k⟩ => by
  cases s with
  | d x =>
    obtain ⟨v, hv, hd⟩ := q.slot i _ hs
    exact ⟨v, hv, k v H x O τ n q hd hw⟩
  | own xs =>
    obtain ⟨v, O', hv, q', hd⟩ := q.give (x := .lst xs) hs fun v O' hm hn hk nd ⟨a, vs, e1, e2, e3, e4⟩ => by
      subst e1
      have s : ∀ y ∈ ad O' ++ W.M0, y ∈ ad O ++ W.M0 := fun y hy => by
        rcases List.mem_append.mp hy with hy | hy
        · obtain ⟨p, hp, e⟩ := List.mem_map.mp hy
          exact List.mem_append_left _ (List.mem_map.mpr ⟨p, hm p hp, e⟩)
        · exact List.mem_append_right _ hy
      refine .lst (LsM.of e3 fun z => ?_) (DatL.sub s e4)
      rcases List.mem_append.mp z with z | z
      · exact nd_out q.nd e2 hm hn z
      · exact (q.own _ e2).2.1 z
    exact ⟨v, hv, k v H _ O' _ n q' hd hw⟩
  | self z c ns ds =>
    obtain ⟨v, O', hv, q', hd⟩ := q.give (x := .ins c ns ds) hs fun v O' hm hn hk nd ⟨dx, vs, e1, e2, e3, e4, e5⟩ => by
      subst e1
      have s : ∀ y ∈ ad O' ++ W.M0, y ∈ ad O ++ W.M0 := fun y hy => by
        rcases List.mem_append.mp hy with hy | hy
        · obtain ⟨p, hp, e⟩ := List.mem_map.mp hy
          exact List.mem_append_left _ (List.mem_map.mpr ⟨p, hm p hp, e⟩)
        · exact List.mem_append_right _ hy
      refine .ins e3 (fun z => ?_) e4 (DatL.sub s e5)
      rcases List.mem_append.mp z with z | z
      · exact nd_out q.nd e2 hm hn z
      · exact (q.own _ e2).2.1 z
    exact ⟨v, hv, k v H _ O' _ n q' hd hw⟩
  | fix vs xs =>
    obtain ⟨v, hv, a, e1, e2, e3⟩ := q.slot i _ hs
    subst e1
    exact ⟨_, hv, k _ H _ O τ n q (.lst e2 e3) hw⟩
theorem lift2 (hd : DOp K r w) {σ : L2.St} {H : Hp} {Q : VK} (h : liftE K W (wOp w wa wb) σ H Q) : tOp r (liftE K W wa) (liftE K W wb) σ H Q := by
  obtain ⟨Γ, O, τ, n, Q', q, hw, k⟩ := h
  refine ⟨Γ, O, τ, n, _, q, hw, fun v H1 d O1 τ1 n1 q1 d1 hw1 => ?_⟩
  refine ⟨.d v d :: Γ, O1, τ1, n1, _, q1.gcons d1, hw1, fun u H2 e O2 τ2 n2 q2 d2 hw2 => ?_⟩
  exact hd W.b _ H2 v u d e _ Q q2.al q2.head d2 hw2 fun z H' f e' df qf => k z H' f O2 τ2 n2 (q2.tail.ex e') df qf
theorem ve_op {op : Operator} (ho : OpR X (binaryOp op) r) (hd : DOp K r w) (ha : PE X a (liftE K W wa)) (hb : PE X b (liftE K W wb)) : PE X (.BinOp a op b pos) (liftE K W (wOp w wa wb)) := BF.PE.imp (pe_op ho ha hb) fun _ _ _ q => lift2 hd q
theorem ve_cmp {op : CmpOp} (ho : OpR X (compareOp op) r) (hd : DOp K r w) (ha : PE X a (liftE K W wa)) (hb : PE X b (liftE K W wb)) (hm : behindInMarks op b = false) : PE X (.Compare a [op] [b] pos) (liftE K W (wOp w wa wb)) := BF.PE.imp (pe_cmpR ho ha hb hm) fun _ _ _ q => lift2 hd q
theorem ve_ix (hr : IxR X r) (hd : DOp K r w) (ha : PE X a (liftE K W wa)) (hb : PE X b (liftE K W wb)) (hs : PlainIx b) : PE X (.Subscript a b pos) (liftE K W (wOp w wa wb)) := BF.PE.imp (pe_ix hr ha hb hs) fun _ _ _ q => lift2 hd q
theorem lift1 {r : V → Hp → VK → Prop} {w : DV → (DV → Prop) → Prop} (hd : DUn K r w) {σ : L2.St} {H : Hp} {Q : VK} (h : liftE K W (wUn w wa) σ H Q) : tUn r (liftE K W wa) σ H Q := by
  obtain ⟨Γ, O, τ, n, Q', q, hw, k⟩ := h
  refine ⟨Γ, O, τ, n, _, q, hw, fun v H1 d O1 τ1 n1 q1 d1 hw1 => ?_⟩
  exact hd W.b _ H1 v d _ Q q1.al d1 hw1 fun z H' f e' df qf => k z H' f O1 τ1 n1 (q1.ex e') df qf
theorem ve_un {op : UnaryOp} {r : V → Hp → VK → Prop} {w : DV → (DV → Prop) → Prop} (ho : UnR X (unaryOp op) r) (hd : DUn K r w) (ha : PE X a (liftE K W wa)) : PE X (.UnaryOp op a pos) (liftE K W (wUn w wa)) := BF.PE.imp (pe_un ho ha) fun _ _ _ q => lift1 hd q
theorem va_nil : PA X [] (liftA K W wNil) := ⟨fun p pins s σ H Q I ⟨Γ, O, τ, n, Q', q, hw, k⟩ => pa_nil.run p pins s σ H Q I (k [] H [] O τ n q .nil hw)⟩
theorem PA.imp {es : List Expr} {t t' : TA} (h : PA X es t) (i : ∀ σ H Q, t' σ H Q → t σ H Q) : PA X es t' := ⟨fun p pins s σ H Q I q => h.run p pins s σ H Q I (i σ H Q q)⟩
theorem va_cons (he : PE X e (liftE K W we)) (hr : PA X es (liftA K W wr)) (hs : starEach (e :: es) X.env = (false, eval e X.env) :: starEach es X.env := by rfl) : PA X (e :: es) (liftA K W (wCons we wr)) := by
  refine PA.imp (pa_cons he hr hs) fun σ H Q ⟨Γ, O, τ, n, Q', q, hw, k⟩ => ?_
  refine ⟨Γ, O, τ, n, _, q, hw, fun v H1 d O1 τ1 n1 q1 d1 hw1 => ?_⟩
  refine ⟨.d v d :: Γ, O1, τ1, n1, _, q1.gcons d1, hw1, fun vs H2 ds O2 τ2 n2 q2 d2 hw2 => ?_⟩
  exact k (v :: vs) H2 (d :: ds) O2 τ2 n2 q2.tail (.cons q2.head d2) hw2
theorem liftC {rc : List V → Hp → VK → Prop} {w : List DV → (DV → Prop) → Prop} (hd : DCall K rc w) {σ : L2.St} {H : Hp} {Q : VK} (h : liftE K W (wCB w wr) σ H Q) : tCB rc (liftA K W wr) σ H Q := by
  obtain ⟨Γ, O, τ, n, Q', q, hw, k⟩ := h
  refine ⟨Γ, O, τ, n, _, q, hw, fun vs H1 ds O1 τ1 n1 q1 d1 hw1 => ?_⟩
  exact hd W.b _ H1 vs ds _ Q q1.al d1 hw1 fun z H' f e' df qf => k z H' f O1 τ1 n1 (q1.ex e') df qf
theorem ve_cb {rc : List V → Hp → VK → Prop} {w : List DV → (DV → Prop) → Prop} (h : PE X e (tCB rc (liftA K W wr))) (hd : DCall K rc w) : PE X e (liftE K W (wCB w wr)) := BF.PE.imp h fun _ _ _ q => liftC hd q
theorem ve_tup {x1} (h : PA X es (liftA K W wr)) : PE X (.Tuple es x1 pos) (liftE K W (wTup wr)) := by
  refine BF.PE.imp (BF.pe_tupE h) fun σ H Q ⟨Γ, O, τ, n, Q', q, hw, k⟩ => ?_
  refine ⟨Γ, O, τ, n, _, q, hw, fun vs H1 ds O1 τ1 n1 q1 d1 hw1 => ⟨by rw [d1.length]; exact hw1.1, fun p H2 hp e hp2 => ?_⟩⟩
  exact k (.ref p) H2 (.tup ds) O1 τ1 n1 (q1.ex e) (.tup (TsM.of hp2 (q1.newO hp)) (DatL.ey (Ey.ex0 e) d1)) hw1.2
theorem ve_lst (h : PA X es (liftA K W wr)) : PE X (.List es pos) (liftE K W (wLst wr)) := by
  refine BF.PE.imp (BF.pe_lstE h) fun σ H Q ⟨Γ, O, τ, n, Q', q, hw, k⟩ => ?_
  refine ⟨Γ, O, τ, n, _, q, hw, fun vs H1 ds O1 τ1 n1 q1 d1 hw1 => ⟨by rw [d1.length]; exact hw1.1, fun p H2 hp e hp2 => ?_⟩⟩
  exact k (.ref p) H2 (.lst ds) O1 τ1 n1 (q1.ex e) (.lst (LsM.of hp2 (q1.newO hp)) (DatL.ey (Ey.ex0 e) d1)) hw1.2
/-- .. with p apart -/
theorem Rel.apart {Γ : List Gh} {O : Om} {τ : ST} {n : Int} {σ : L2.St} {H H' : Hp} {p : Addr} (q : Rel K W Γ O [] τ n σ H) (hp : H p = none) (e : BF.Ex [] H H') : Rel K W Γ O [p] τ n σ H' := by
  have q' : Rel K W Γ O [p] τ n σ H := ⟨q.len, q.few, fun i s hs => by
    obtain ⟨v, hv, k⟩ := q.slot i s hs
    exact ⟨v, hv, k.fresh hp⟩, fun g hg => (q.gh g hg).fresh hp, q.nd, q.own, q.ext, q.bag, q.bag0, q.tab, q.al, q.al0, q.mdb⟩
  exact q'.ex e
theorem Rel.ownC {Γ : List Gh} {O : Om} {L : List Addr} {τ : ST} {n : Int} {σ : L2.St} {H : Hp} {p : Addr} (q : Rel K W Γ O L τ n σ H) (hp : H p = none) : OwnC W p := by
  refine ⟨fun o ho => ?_, fun z => q.newO hp (List.mem_append_right _ z), fun z => ?_⟩
  · by_cases m : p ∈ W.Md
    · exact .inl m
    · by_cases t : ∃ ps, o = .tbl ps
      · exact .inr t
      · have := q.ext p o m ho fun ps e => t ⟨ps, e⟩
        rw [hp] at this
        cases this
  · obtain ⟨o, ho, _⟩ := W.Ba q.bag p z
    rw [hp] at ho
    cases ho
/-- a new list, no one else's -/
theorem vo_lst (h : PA X es (liftA K W wr)) : PE X (.List es pos) (liftO K W (wLstO wr)) := by
  refine BF.PE.imp (BF.pe_lstE h) fun σ H Q ⟨Γ, O, τ, n, Q', q, hw, k⟩ => ?_
  refine ⟨Γ, O, τ, n, _, q, hw, fun vs H1 ds O1 τ1 n1 q1 d1 hw1 => ⟨by rw [d1.length]; exact hw1.1, fun p H2 hp e hp2 => ?_⟩⟩
  exact k p vs H2 ds O1 τ1 n1 (q1.apart hp e) hp2 (q1.newO hp) (q1.ownC hp) (DatL.ey (Ey.ex0 e) (DatL.fresh hp d1)) hw1.2
end
end VF
/-! ## Tests, slices, calls, methods, fields -/
namespace VF
open PySem PySem.Spec PyProof.Rows L2
abbrev DSp := List DV → Int → (DV → Int → Prop) → XV → Prop
def lk : List Str → List DV → Str → Option DV
  | n :: ns, d :: ds, f => if f == n then some d else lk ns ds f
  | _, _, _ => none
def AtOk (K : PySem.W.Frag) (c f : Str) : Prop := Cls K (He.ga K c) ∧ NoAttr K (He.ga K c) f
def wCall (sp : DSp) (dds : List DV) (E' : XV) (wr : WA) : WE := fun τ n Q => wr τ n fun ds τ1 n1 => sp (ds ++ dds) n1 (fun d n2 => Q d τ1 n2) E'
def wMeth (c m : Str) (sp : DSp) (dds : List DV) (E' : XV) (wa : WE) (wr : WA) : WE := fun τ n Q => wa τ n fun d τ1 n1 => ∃ ns es, d = .ins c ns es ∧ ns.contains m = false ∧ wr τ1 n1 fun ds τ2 n2 => sp (d :: (ds ++ dds)) n2 (fun f n3 => Q f τ2 n3) E'
def wFld (K : PySem.W.Frag) (wa : WE) (f : Str) : WE := fun τ n Q => wa τ n fun d τ1 n1 => ∃ c ns es x, d = .ins c ns es ∧ AtOk K c f ∧ lk ns es f = some x ∧ Q x τ1 n1
/-- a field of what a slot holds, without handing it on -/
def wFldS (K : PySem.W.Frag) (i : Nat) (f : Str) : WE := fun τ n Q => ∃ z c ns es x, (τ[i]? = some (some (.self z c ns es)) ∨ τ[i]? = some (some (.d (.ins c ns es)))) ∧ AtOk K c f ∧ lk ns es f = some x ∧ Q x τ n
/-- what lies behind a call -/
structure Post (C : Cf) (M : List Addr) (H H' : Hp) (n' : Int) : Prop where
  ey : Ey [C.b] H H'
  al : AlN M H'
  bag : C.B H' n'
  tab : LamX.Tabs C.T H'
def ELinkG (K : PySem.W.Frag) (W : Wc) (E' : XV) (E : XK) : Prop := ∀ c ns ws es dd H' n', Ey W.Md W.H0 H' → AlN W.M0 H' → W.B H' n' → LamX.Tabs W.T H' → H' dd = some (.xd (ns.zip ws)) → ns.length = ws.length → DatL K W.b W.M0 H' ws es → E' c ns es n' → E (.ref (He.ga K c)) (some dd) H'
abbrev ELink (K : PySem.W.Frag) (W : Wc) : Prop := ELinkG K W W.E' W.E
def E0' : XV := fun _ _ _ _ => False
theorem elink0 {K : PySem.W.Frag} {W : Wc} {E : XK} : ELinkG K W E0' E := fun _ _ _ _ _ _ _ _ _ _ _ _ _ _ h => h.elim
def liftSp (K : PySem.W.Frag) (Cs : Cf → Prop) (sp : DSp) : Sp := fun vs H Q E => ∃ (C : Cf) (M : List Addr) (n : Int) (ds : List DV) (Q' : DV → Int → Prop) (E' : XV), Cs C ∧ C.b ∈ M ∧ AlN M H ∧ C.B H n ∧ LamX.Tabs C.T H ∧ DatL K C.b M H vs ds ∧ sp ds n Q' E' ∧
  (∀ v H' d n', Post C M H H' n' → Dat K C.b M H' v d → Q' d n' → Q v H') ∧
  (∀ c ns ws es dd H' n', Post C M H H' n' → H' dd = some (.xd (ns.zip ws)) → ns.length = ws.length → DatL K C.b M H' ws es → E' c ns es n' → E (.ref (He.ga K c)) (some dd) H')
section
variable {K : PySem.W.Frag} {W : Wc} {X : Cx} {a b c e : Expr} {es : List Expr} {wa wb wc we : WE} {wr : WA} {t u : WT} {pos : Pos} {r r' : R2} {w w' : DV → DV → (DV → Prop) → Prop} {Cs : Cf → Prop} {rest : List Expr}
theorem PT.imp {e : Expr} {t t' : L2.TT} (h : PT X e t) (i : ∀ σ H Q, t' σ H Q → t σ H Q) : PT X e t' := ⟨fun pins s σ H Q I q => h.run pins s σ H Q I (i σ H Q q)⟩
theorem PW.imp {e : Expr} {t t' : L2.TT} (h : PW X e t) (i : ∀ σ H Q, t' σ H Q → t σ H Q) : PW X e t' := ⟨fun wh pins s σ H Q I q => h.run wh pins s σ H Q I (i σ H Q q)⟩
theorem bl_of {K : PySem.W.Frag} {b : Addr} {M : List Addr} {H : Hp} {v : V} {x : Bool} (h : Dat K b M H v (.bl x)) : v = .bl x := by cases h; rfl
theorem liftB {σ : L2.St} {H : Hp} {Q : Bool → Hp → Prop} (h : liftT K W (wB we) σ H Q) : liftE K W we σ H fun x H' => ∃ k, x = .bl k ∧ Q k H' := by
  obtain ⟨Γ, O, τ, n, Q', q, hw, k⟩ := h
  refine ⟨Γ, O, τ, n, _, q, hw, fun v H1 d O1 τ1 n1 q1 d1 ⟨x, ex, qx⟩ => ?_⟩
  subst ex
  exact ⟨x, bl_of d1, k x H1 O1 τ1 n1 q1 qx⟩
theorem vt_cmp {op : CmpOp} (ho : OpR X (compareOp op) r) (hd : DOp K r w) (ha : PE X a (liftE K W wa)) (hb : PE X b (liftE K W wb)) (hm : behindInMarks op b = false) : PT X (.Compare a [op] [b] pos) (liftT K W (wB (wOp w wa wb))) :=
  PT.imp (pt_cmpR ho ha hb hm) fun σ H Q h => lift2 hd (liftB h)
theorem vt_val (h : PE X e (liftE K W we)) (he : ∀ whole, isTrue e X.env whole = (do let v ← whole; standAt e.pos; holding [v] (truthy v)) := by intro _; rfl) : PT X e (liftT K W (wB we)) :=
  PT.imp (pt_val h he) fun σ H Q h => liftB h
theorem vt_not (h : PT X a (liftT K W t)) : PT X (.UnaryOp .Not a pos) (liftT K W (wNot t)) := PT.imp (pt_not h) fun σ H Q ⟨Γ, O, τ, n, Q', q, hw, k⟩ => ⟨Γ, O, τ, n, _, q, hw, fun b H1 O1 τ1 n1 q1 hq => k (!b) H1 O1 τ1 n1 q1 hq⟩
theorem vw_and1 (h : PT X a (liftT K W t)) : PW X (.BoolOp .And [a] pos) (liftT K W t) := pw_and1 h
theorem vw_or1 (h : PT X a (liftT K W t)) : PW X (.BoolOp .Or [a] pos) (liftT K W t) := pw_or1 h
theorem vw_and (ha : PT X a (liftT K W t)) (hb : PW X (.BoolOp .And (b :: rest) pos) (liftT K W u)) : PW X (.BoolOp .And (a :: b :: rest) pos) (liftT K W (wAnd t u)) := PW.imp (pw_and ha hb) fun σ H Q ⟨Γ, O, τ, n, Q', q, hw, k⟩ =>
  ⟨Γ, O, τ, n, _, q, hw, fun c H1 O1 τ1 n1 q1 hq => by
    cases c with
    | true => exact ⟨Γ, O1, τ1, n1, Q', q1, hq, k⟩
    | false => exact k false H1 O1 τ1 n1 q1 hq⟩
theorem vw_or (ha : PT X a (liftT K W t)) (hb : PW X (.BoolOp .Or (b :: rest) pos) (liftT K W u)) : PW X (.BoolOp .Or (a :: b :: rest) pos) (liftT K W (wOr t u)) := PW.imp (pw_or ha hb) fun σ H Q ⟨Γ, O, τ, n, Q', q, hw, k⟩ =>
  ⟨Γ, O, τ, n, _, q, hw, fun c H1 O1 τ1 n1 q1 hq => by
    cases c with
    | false => exact ⟨Γ, O1, τ1, n1, Q', q1, hq, k⟩
    | true => exact k true H1 O1 τ1 n1 q1 hq⟩
theorem ve_and (ha : PE X a (liftE K W wa)) (hb : PE X (.BoolOp .And (b :: rest) pos) (liftE K W wb)) : PE X (.BoolOp .And (a :: b :: rest) pos) (liftE K W (wAndV wa wb)) := BF.PE.imp (pe_and ha hb) fun σ H Q ⟨Γ, O, τ, n, Q', q, hw, k⟩ =>
  ⟨Γ, O, τ, n, _, q, hw, fun v H1 d O1 τ1 n1 q1 d1 ⟨c, ec, hq⟩ => by
    subst ec
    refine ⟨c, bl_of d1, ?_⟩
    cases c with
    | true => exact ⟨Γ, O1, τ1, n1, Q', q1, hq, k⟩
    | false => exact k _ H1 _ O1 τ1 n1 q1 (.bl false) hq⟩
theorem ve_or (ha : PE X a (liftE K W wa)) (hb : PE X (.BoolOp .Or (b :: rest) pos) (liftE K W wb)) : PE X (.BoolOp .Or (a :: b :: rest) pos) (liftE K W (wOrV wa wb)) := BF.PE.imp (pe_or ha hb) fun σ H Q ⟨Γ, O, τ, n, Q', q, hw, k⟩ =>
  ⟨Γ, O, τ, n, _, q, hw, fun v H1 d O1 τ1 n1 q1 d1 ⟨c, ec, hq⟩ => by
    subst ec
    refine ⟨c, bl_of d1, ?_⟩
    cases c with
    | false => exact ⟨Γ, O1, τ1, n1, Q', q1, hq, k⟩
    | true => exact k _ H1 _ O1 τ1 n1 q1 (.bl true) hq⟩
theorem ve_not (ha : PE X a (liftE K W wa)) : PE X (.UnaryOp .Not a pos) (liftE K W (wNotV wa)) := BF.PE.imp (pe_not ha) fun σ H Q ⟨Γ, O, τ, n, Q', q, hw, k⟩ =>
  ⟨Γ, O, τ, n, _, q, hw, fun v H1 d O1 τ1 n1 q1 d1 ⟨c, ec, hq⟩ => by
    subst ec
    exact ⟨c, bl_of d1, k _ H1 _ O1 τ1 n1 q1 (.bl _) hq⟩⟩
theorem ve_if {c : Expr} (hc : PT X c (liftT K W t)) (ha : PE X a (liftE K W wa)) (hb : PE X b (liftE K W wb)) : PE X (.IfExp c a b pos) (liftE K W (wIf t wa wb)) := BF.PE.imp (pe_ifExp hc ha hb) fun σ H Q ⟨Γ, O, τ, n, Q', q, hw, k⟩ =>
  ⟨Γ, O, τ, n, _, q, hw, fun c H1 O1 τ1 n1 q1 hq => by
    cases c with
    | true => exact ⟨Γ, O1, τ1, n1, Q', q1, hq, k⟩
    | false => exact ⟨Γ, O1, τ1, n1, Q', q1, hq, k⟩⟩
theorem liftChain (hd : DOp K r w) (hd' : DOp K r' w') {σ : L2.St} {H : Hp} {Q : VK} (h : liftE K W (wChain w w' wa wb wc) σ H Q) : tChain r r' (liftE K W wa) (liftE K W wb) (liftE K W wc) σ H Q := by
  obtain ⟨Γ, O, τ, n, Q', q, hw, k⟩ := h
  refine ⟨Γ, O, τ, n, _, q, hw, fun v H1 d O1 τ1 n1 q1 d1 hw1 => ?_⟩
  refine ⟨.d v d :: Γ, O1, τ1, n1, _, q1.gcons d1, hw1, fun u H2 e O2 τ2 n2 q2 d2 hw2 => ?_⟩
  refine hd W.b _ H2 v u d e _ _ q2.al q2.head d2 hw2 fun z H3 f e3 df ⟨x, ex, qx⟩ => ?_
  subst ex
  refine ⟨x, bl_of df, ?_⟩
  have q3 := q2.ex e3
  have d3 := Dat.ey (Ey.ex0 e3) d2
  cases x with
  | true =>
    refine ⟨.d u e :: Γ, O2, τ2, n2, _, (q3.tail).gcons d3, qx, fun u' H4 g O4 τ4 n4 q4 d4 hw4 => ?_⟩
    exact hd' W.b _ H4 u u' e g _ Q q4.al q4.head d4 hw4 fun z H' f e' df qf => k z H' f O4 τ4 n4 (q4.tail.ex e') df qf
  | false => exact k _ H3 _ O2 τ2 n2 q3.tail (.bl false) qx
theorem ve_chain {op op' : CmpOp} (ho : OpR X (compareOp op) r) (ho' : OpR X (compareOp op') r') (hd : DOp K r w) (hd' : DOp K r' w') (ha : PE X a (liftE K W wa)) (hb : PE X b (liftE K W wb)) (hc : PE X c (liftE K W wc))
    (hm : lastMarks [op, op'] [b, c] = false := by with_unfolding_all rfl) : PE X (.Compare a [op, op'] [b, c] pos) (liftE K W (wChain w w' wa wb wc)) := BF.PE.imp (pe_chain ho ho' ha hb hc hm) fun _ _ _ h => liftChain hd hd' h
theorem vt_chain {op op' : CmpOp} (ho : OpR X (compareOp op) r) (ho' : OpR X (compareOp op') r') (hd : DOp K r w) (hd' : DOp K r' w') (ha : PE X a (liftE K W wa)) (hb : PE X b (liftE K W wb)) (hc : PE X c (liftE K W wc))
    (hm : lastMarks [op, op'] [b, c] = false := by with_unfolding_all rfl) : PT X (.Compare a [op, op'] [b, c] pos) (liftT K W (wB (wChain w w' wa wb wc))) := PT.imp (pt_chain ho ho' ha hb hc hm) fun _ _ _ h => liftChain hd hd' (liftB h)
/-! slices -/
def liftP (K : PySem.W.Frag) (W : Wc) (o : Option WE) : TO := fun σ H Q => ∃ (Γ : List Gh) (O : Om) (τ : ST) (n : Int) (Q' : Option Int → ST → Int → Prop), Rel K W Γ O [] τ n σ H ∧ wP o τ n Q' ∧ ∀ i H' O' τ' n', Rel K W Γ O' [] τ' n' σ H' → Q' i τ' n' → Q i H'
theorem PO.imp {o : Option Expr} {t t' : TO} (h : PO X o t) (i : ∀ σ H Q, t' σ H Q → t σ H Q) : PO X o t' := ⟨fun pins s σ H Q I q => h.run pins s σ H Q I (i σ H Q q)⟩
theorem int_of {K : PySem.W.Frag} {b : Addr} {M : List Addr} {H : Hp} {v : V} {x : Int} (h : Dat K b M H v (.int x)) : v = .int x := by cases h; rfl
theorem vo_none : PO X none (liftP K W none) := PO.imp po_none fun σ H Q ⟨Γ, O, τ, n, Q', q, hw, k⟩ => k none H O τ n q hw
theorem vo_some (h : PE X e (liftE K W we)) : PO X (some e) (liftP K W (some we)) := PO.imp (po_some h) fun σ H Q ⟨Γ, O, τ, n, Q', q, hw, k⟩ => ⟨Γ, O, τ, n, _, q, hw, fun v H1 d O1 τ1 n1 q1 d1 ⟨i, ei, hq⟩ => by
  subst ei
  exact ⟨i, int_of d1, k _ H1 O1 τ1 n1 q1 hq⟩⟩
theorem ve_slice {r : V → Option Int → Option Int → Hp → VK → Prop} {w : DV → Option Int → Option Int → (DV → Prop) → Prop} {lo hi : Option Expr} {wl wh : Option WE} {p2 : Pos} (hr : SlR X r) (hd : DSl K r w) (he : PE X e (liftE K W we)) (hl : PO X lo (liftP K W wl)) (hu : PO X hi (liftP K W wh)) :
    PE X (.Subscript e (.Slice lo hi none p2) pos) (liftE K W (wSl w we wl wh)) := by
  refine BF.PE.imp (pe_slice hr he hl hu) fun σ H Q ⟨Γ, O, τ, n, Q', q, hw, k⟩ => ?_
  refine ⟨Γ, O, τ, n, _, q, hw, fun v H1 d O1 τ1 n1 q1 d1 hw1 => ?_⟩
  refine ⟨.d v d :: Γ, O1, τ1, n1, _, q1.gcons d1, hw1, fun l H2 O2 τ2 n2 q2 hw2 => ?_⟩
  refine ⟨.d v d :: Γ, O2, τ2, n2, _, q2, hw2, fun u H3 O3 τ3 n3 q3 hw3 => ?_⟩
  exact hd W.b _ H3 v d l u _ Q q3.al q3.head hw3 fun z H' f e' df qf => k z H' f O3 τ3 n3 (q3.tail.ex e') df qf
/-! calls -/
theorem post_rel {Γ : List Gh} {O : Om} {L : List Addr} {τ : ST} {n n' : Int} {σ : L2.St} {H H' : Hp} (q : Rel K W Γ O L τ n σ H) (p : Post W.toCf (ad O ++ W.M0) H H' n') : Rel K W Γ O L τ n' σ H' := q.step p.ey p.bag p.tab p.al
theorem sub_M0 {O : Om} : ∀ x ∈ W.M0, x ∈ ad O ++ W.M0 := fun _ h => List.mem_append_right _ h
theorem sp_call {sp : DSp} {E' : XV} {E : XK} (hC : Cs W.toCf) (hE : ELinkG K W E' E) {Γ : List Gh} {O : Om} {τ : ST} {n : Int} {σ : L2.St} {H : Hp} {vs : List V} {ds : List DV} {Q : VK} {Q' : DV → ST → Int → Prop} (q : Rel K W Γ O [] τ n σ H) (hd : DatL K W.b (ad O ++ W.M0) H vs ds) (hw : sp ds n (fun d n2 => Q' d τ n2) E')
    (k : ∀ v H' d O' τ' n', Rel K W Γ O' [] τ' n' σ H' → Dat K W.b (ad O' ++ W.M0) H' v d → Q' d τ' n' → Q v H') : liftSp K Cs sp vs H Q E := by
  refine ⟨W.toCf, ad O ++ W.M0, n, ds, _, E', hC, List.mem_append_right _ W.bm, q.al, q.bag, q.tab, hd, hw, fun v H' d n' p dd hq => k v H' d O τ n' (post_rel q p) dd hq, fun c ns ws es dd H' n' p h1 h2 h3 h4 => ?_⟩
  exact hE c ns ws es dd H' n' (q.ext.tr (p.ey.sub fun x hx => by rw [List.mem_singleton.mp hx]; exact W.bd)) (fun x hx => p.al x (sub_M0 x hx)) p.bag p.tab h1 h2 (DatL.sub sub_M0 h3) h4
theorem ve_call {sp : DSp} {dvs : List V} {dds : List DV} {E' : XV} {E : XK} (hC : Cs W.toCf) (hE : ELinkG K W E' E) (h : PE X e (tCall (liftSp K Cs sp) dvs E (liftA K W wr))) (hdv : ∀ b M H, DatL K b M H dvs dds) : PE X e (liftE K W (wCall sp dds E' wr)) := by
  refine BF.PE.imp h fun σ H Q ⟨Γ, O, τ, n, Q', q, hw, k⟩ => ?_
  exact ⟨Γ, O, τ, n, _, q, hw, fun vs H1 ds O1 τ1 n1 q1 d1 hw1 => sp_call hC hE q1 (DatL.app d1 (hdv _ _ _)) hw1 k⟩
theorem lkup_none {ns : List Str} {vs : List V} {m : Str} (h : ns.contains m = false) : (ns.zip vs).lookup m = none := by
  induction ns generalizing vs with
  | nil => rfl
  | cons x ns ih =>
    rw [List.contains_cons, Bool.or_eq_false_iff] at h
    cases vs with
    | nil => rfl
    | cons v vs =>
      rw [List.zip_cons_cons, List.lookup_cons, h.1]
      exact ih h.2
theorem lkup_some {b : Addr} {M : List Addr} {H : Hp} {f : Str} {x : DV} : ∀ {ns : List Str} {vs : List V} {ds : List DV}, DatL K b M H vs ds → lk ns ds f = some x → ∃ v, (ns.zip vs).lookup f = some v ∧ Dat K b M H v x
  | [], _, _, _, h => by simp [lk] at h
  | n :: ns, _, _, .nil, h => by simp [lk] at h
  | n :: ns, _, _, .cons (v := v) hv l, h => by
    unfold lk at h
    rw [List.zip_cons_cons, List.lookup_cons]
    cases e : f == n with
    | true =>
      rw [e] at h
      simp at h
      subst h
      exact ⟨v, rfl, hv⟩
    | false =>
      rw [e] at h
      simp at h
      exact lkup_some l h
theorem ve_meth {sp : DSp} {dvs : List V} {dds : List DV} {E' : XV} {E : XK} {cl m : Str} {e : Expr} (hC : Cs W.toCf) (hE : ELinkG K W E' E) (h : PE X e (tMeth (He.ga K cl) m (liftSp K Cs sp) dvs E (liftE K W wa) (liftA K W wr))) (hdv : ∀ b M H, DatL K b M H dvs dds) : PE X e (liftE K W (wMeth cl m sp dds E' wa wr)) := by
  refine BF.PE.imp h fun σ H Q ⟨Γ, O, τ, n, Q', q, hw, k⟩ => ?_
  refine ⟨Γ, O, τ, n, _, q, hw, fun v H1 d O1 τ1 n1 q1 d1 ⟨ns, es, ed, hm, hw1⟩ => ?_⟩
  subst ed
  have d1' := d1
  cases d1 with
  | ins h1 h2 h3 h4 =>
    refine ⟨_, _, _, rfl, h1, lkup_none hm, ?_⟩
    refine ⟨.d _ _ :: Γ, O1, τ1, n1, _, q1.gcons d1', hw1, fun vs H2 ds O2 τ2 n2 q2 d2 hw2 => ?_⟩
    exact sp_call hC hE q2.tail (.cons q2.head (DatL.app d2 (hdv _ _ _))) hw2 k
theorem ve_fld {f : Str} (h : PE X e (tFld K (liftE K W wa) f)) : PE X e (liftE K W (wFld K wa f)) := by
  refine BF.PE.imp h fun σ H Q ⟨Γ, O, τ, n, Q', q, hw, k⟩ => ?_
  refine ⟨Γ, O, τ, n, _, q, hw, fun v H1 d O1 τ1 n1 q1 d1 ⟨c, ns, es, x, ed, ok, hl, hq⟩ => ?_⟩
  subst ed
  cases d1 with
  | ins h1 h2 h3 h4 =>
    obtain ⟨v, hv, dv⟩ := lkup_some h4 hl
    exact ⟨_, _, _, _, v, rfl, h1, ok.1, ok.2, hv, k v H1 x O1 τ1 n1 q1 dv hq⟩
theorem ve_fldS {i : Nat} {f : Str} (h : PE X e (tFld K (tVar i) f)) : PE X e (liftE K W (wFldS K i f)) := by
  refine BF.PE.imp h fun σ H Q ⟨Γ, O, τ, n, Q', q, ⟨z, c, ns, es, x, hs, ok, hl, hq⟩, k⟩ => ?_
  rcases hs with hs | hs
  · obtain ⟨v, hv, dx, vs, e1, e2, e3, e4, e5⟩ := q.slot i _ hs
    obtain ⟨u, hu, du⟩ := lkup_some e5 hl
    exact ⟨v, hv, z, _, dx, _, u, e1, e3, ok.1, ok.2, hu, k u H x O τ n q du hq⟩
  · obtain ⟨v, hv, dd⟩ := q.slot i _ hs
    cases (dd : Dat K W.b ([] ++ ad O ++ W.M0) H v (.ins c ns es)) with
    | ins h1 h2 h3 h4 =>
      obtain ⟨u, hu, du⟩ := lkup_some h4 hl
      exact ⟨_, hv, _, _, _, _, u, rfl, h1, ok.1, ok.2, hu, k u H x O τ n q du hq⟩
end
end VF
/-! ## Readings of statements by data alone -/
namespace VF
open PySem PySem.Spec PyProof.Rows L2
structure WEnds where
  nx : ST → Int → Prop
  rt : DV → Int → Prop
  bk : ST → Int → Prop := fun _ _ => False
  ct : ST → Int → Prop := fun _ _ => False
abbrev WS := WEnds → ST → Int → Prop
abbrev WG := DV → ST → (ST → Prop) → Prop
abbrev WGs := List DV → ST → (ST → Prop) → Prop
structure Ret (K : PySem.W.Frag) (W : Wc) (v : V) (H : Hp) (d : DV) (n : Int) : Prop where
  ey : Ey W.Md W.H0 H
  bag : W.B H n
  tab : LamX.Tabs W.T H
  al : AlN W.M0 H
  dat : Dat K W.b W.M0 H v d
structure Lk (K : PySem.W.Frag) (W : Wc) (Γ : List Gh) (D' : WEnds) (D : Ends) : Prop where
  nx : ∀ σ H τ n O, Rel K W Γ O [] τ n σ H → D'.nx τ n → D.nx σ H
  bk : ∀ σ H τ n O, Rel K W Γ O [] τ n σ H → D'.bk τ n → D.bk σ H
  ct : ∀ σ H τ n O, Rel K W Γ O [] τ n σ H → D'.ct τ n → D.ct σ H
  rt : ∀ v H d n, Ret K W v H d n → D'.rt d n → D.rt v H
def liftS (K : PySem.W.Frag) (W : Wc) (w : WS) : TS := fun D σ H => ∃ Γ O τ n D', Rel K W Γ O [] τ n σ H ∧ w D' τ n ∧ Lk K W Γ D' D
/-- alike but at the slots S -/
def Sm {α : Type} (S : List Nat) (σ σ' : List α) : Prop := σ'.length = σ.length ∧ ∀ i, i ∉ S → σ'[i]? = σ[i]?
def liftG (K : PySem.W.Frag) (W : Wc) (S : List Nat) (g : WG) : TG := fun v σ H Q => ∃ Γ O τ n d Q', Rel K W Γ O [] τ n σ H ∧ Dat K W.b (ad O ++ W.M0) H v d ∧ g d τ Q' ∧ ∀ σ' O' τ', Sm S σ σ' → Rel K W Γ O' [] τ' n σ' H → Q' τ' → Q σ' H
def liftGs (K : PySem.W.Frag) (W : Wc) (S : List Nat) (g : WGs) : TGs := fun vs σ H Q => ∃ Γ O τ n ds Q', Rel K W Γ O [] τ n σ H ∧ DatL K W.b (ad O ++ W.M0) H vs ds ∧ g ds τ Q' ∧ ∀ σ' O' τ', Sm S σ σ' → Rel K W Γ O' [] τ' n σ' H → Q' τ' → Q σ' H
theorem Sm.refl {α : Type} {S : List Nat} (σ : List α) : Sm S σ σ := ⟨rfl, fun _ _ => rfl⟩
theorem Sm.tr {α : Type} {S S' : List Nat} {a b c : List α} (h : Sm S a b) (k : Sm S' b c) : Sm (S ++ S') a c := ⟨k.1.trans h.1, fun i hi => (k.2 i fun z => hi (List.mem_append_right _ z)).trans (h.2 i fun z => hi (List.mem_append_left _ z))⟩
theorem Sm.set {α : Type} {σ : List α} {i : Nat} {x : α} : Sm [i] σ (σ.set i x) := ⟨List.length_set, fun j hj => List.getElem?_set_ne fun z => hj (by rw [z]; exact List.mem_singleton.mpr rfl)⟩
/-! the readings -/
def wNext : WS := fun D τ n => D.nx τ n
def wSeq (s t : WS) : WS := fun D τ n => s { D with nx := t D } τ n
def wSet (i : Nat) (we : WE) : WS := fun D τ n => we τ n fun d τ1 n1 => D.nx (τ1.set i (some (.d d))) n1
def wSetO (i : Nat) (wo : WA) : WS := fun D τ n => wo τ n fun ds τ1 n1 => D.nx (τ1.set i (some (.own ds))) n1
def wAsg (we : WE) (g : WG) : WS := fun D τ n => we τ n fun d τ1 n1 => g d τ1 fun τ2 => D.nx τ2 n1
def wPar (i j : Nat) (wa : WA) : WS := fun D τ n => wa τ n fun ds τ1 n1 => ∃ d e, ds = [d, e] ∧ D.nx ((τ1.set i (some (.d d))).set j (some (.d e))) n1
def wRet (we : WE) : WS := fun D τ n => we τ n fun d _ n1 => D.rt d n1
def wRetN : WS := fun D _ n => D.rt .non n
def wIfS (t : WT) (u v : WS) : WS := fun D τ n => t τ n fun b τ1 n1 => if b = true then u D τ1 n1 else v D τ1 n1
def wDrop (we : WE) : WS := fun D τ n => we τ n fun _ τ1 n1 => D.nx τ1 n1
def wBrk : WS := fun D τ n => D.bk τ n
def wCnt : WS := fun D τ n => D.ct τ n
def wApp (i : Nat) (wa : WA) : WS := fun D τ n => (∃ xs, τ[i]? = some (some (.own xs))) ∧ wa τ n fun ds τ1 n1 => ∃ d xs, ds = [d] ∧ τ1[i]? = some (some (.own xs)) ∧ xs.length < 1000000 ∧ D.nx (τ1.set i (some (.own (xs ++ [d])))) n1
def wSetI (i : Nat) (wx we : WE) : WS := fun D τ n => we τ n fun d τ1 n1 => (∃ xs, τ1[i]? = some (some (.own xs))) ∧ wx τ1 n1 fun k τ2 n2 => ∃ z j xs, k = .int z ∧ τ2[i]? = some (some (.own xs)) ∧ ixN xs.length z = some j ∧ D.nx (τ2.set i (some (.own (xs.set j d)))) n2
def pfN (f : Str) : List Str → List Str
  | [] => [f]
  | g :: r => if g = f then f :: r else g :: pfN f r
def pfD (f : Str) (d : DV) : List Str → List DV → List DV
  | g :: r, x :: xs => if g = f then d :: xs else x :: pfD f d r xs
  | _, _ => [d]
def wSetF (K : PySem.W.Frag) (i : Nat) (f : Str) (we : WE) : WS := fun D τ n => we τ n fun d τ1 n1 => ∃ z c ns ds, τ1[i]? = some (some (.self z c ns ds)) ∧ AtOk K c f ∧ ns.length < 100 ∧ D.nx (τ1.set i (some (.self z c (pfN f ns) (pfD f d ns ds)))) n1
def wName (i : Nat) : WG := fun d τ Q => Q (τ.set i (some (.d d)))
def wGNil : WGs := fun ds τ Q => ds = [] ∧ Q τ
def wGCons (g : WG) (gs : WGs) : WGs := fun ds τ Q => ∃ d r, ds = d :: r ∧ g d τ fun τ' => gs r τ' Q
def wGTup (n : Nat) (gs : WGs) : WG := fun d τ Q => ∃ ds, d = .tup ds ∧ ds.length = n ∧ gs ds τ Q
def wWhile (t : WT) (wb : WS) : WS := fun D τ n => ∃ I : Nat → ST → Int → Prop, (∃ m, I m τ n) ∧ ∀ m τ n, I m τ n → t τ n fun b τ1 n1 => if b = true then wb { D with nx := fun τ2 n2 => ∃ m', m' < m ∧ I m' τ2 n2, ct := fun τ2 n2 => ∃ m', m' < m ∧ I m' τ2 n2, bk := D.nx } τ1 n1 else D.nx τ1 n1
/-- by an invariant of the turn, the slots, the draws -/
def wLoop (g : WG) (wb : WS) (D : WEnds) (ds : List DV) (τ : ST) (n : Int) : Prop := ∃ I : Nat → ST → Int → Prop, I 0 τ n ∧
  (∀ i d τ n, ds[i]? = some d → I i τ n → g d τ fun τ1 => wb { D with nx := I (i + 1), ct := I (i + 1), bk := D.nx } τ1 n) ∧ ∀ τ n, I ds.length τ n → D.nx τ n
def wFor (wi : WA) (g : WG) (wb : WS) : WS := fun D τ n => wi τ n fun ds τ1 n1 => wLoop g wb D ds τ1 n1
def wRaise (c : Str) (ns : List Str) (gd : List DV → List DV) (k : Nat) (E' : XV) (wa : WA) : WS := fun _ τ n => wa τ n fun ds _ n1 => ds.length = k ∧ E' c ns (gd ds) n1
/-- J walks these data -/
def Wkd (K : PySem.W.Frag) (b : Addr) (J : It) (gs : List Gh) (ds : List DV) : Prop := ∃ (G : Hp → Prop) (Y : Nat → Hp → V → Hp → Prop), Walk J ds.length G Y ∧ (∀ (O : Om) M H, (∀ g ∈ gs, GhOk K b O M H g) → G H) ∧
  ∀ (O : Om) M H i x H', (∀ g ∈ gs, GhOk K b O M H g) → AlN M H → i < ds.length → Y i H x H' → BF.Ex [] H H' ∧ ∃ d, ds[i]? = some d ∧ Dat K b M H' x d
def liftI (K : PySem.W.Frag) (W : Wc) (wi : WA) : TI := fun σ H R => ∃ Γ O τ n Q', Rel K W Γ O [] τ n σ H ∧ wi τ n Q' ∧ ∀ J H' gs ds O' τ' n', Rel K W (gs ++ Γ) O' [] τ' n' σ H' → Wkd K W.b J gs ds → Q' ds τ' n' → R J H'
section
variable {K : PySem.W.Frag} {W : Wc} {Γ Γ' : List Gh} {O : Om} {τ : ST} {n : Int} {σ : L2.St} {H H' : Hp}
theorem nd_inj : ∀ {O : Om}, (ad O).Nodup → ∀ {i j : Nat} {a : Addr}, (i, a) ∈ O → (j, a) ∈ O → i = j
  | [], _, _, _, _, h, _ => nomatch h
  | x :: O, nd, i, j, a, hp, hq => by
    obtain ⟨n1, n2⟩ := List.nodup_cons.mp nd
    rcases List.mem_cons.mp hp with e1 | h1
    · rcases List.mem_cons.mp hq with e2 | h2
      · rw [← e1] at e2
        exact (Prod.mk.inj e2).1.symm
      · exact absurd (List.mem_map.mpr ⟨_, h2, by rw [← e1]⟩) n1
    · rcases List.mem_cons.mp hq with e2 | h2
      · exact absurd (List.mem_map.mpr ⟨_, h1, by rw [← e2]⟩) n1
      · exact nd_inj n2 h1 h2
theorem f_sub {i : Nat} : ∀ y ∈ ad (O.filter (fun p => decide (p.1 ≠ i))) ++ W.M0, y ∈ ad O ++ W.M0 := fun y hy => by
  rcases List.mem_append.mp hy with hy | hy
  · obtain ⟨p, hp, e⟩ := List.mem_map.mp hy
    exact List.mem_append_left _ (List.mem_map.mpr ⟨p, (List.mem_filter.mp hp).1, e⟩)
  · exact List.mem_append_right _ hy
/-- a slot is set -/
theorem Rel.put (q : Rel K W Γ O [] τ n σ H) {i : Nat} {v : V} {d : DV} (i6 : i < 1000000) (hd : Dat K W.b (ad O ++ W.M0) H v d) : Rel K W Γ (O.filter (fun p => decide (p.1 ≠ i))) [] (τ.set i (some (.d d))) n (σ.set i (some v)) H := by
  refine ⟨by rw [List.length_set, List.length_set]; exact q.len, by rw [List.length_set]; exact q.few, fun j s hj => ?_, fun g hg => (q.gh g hg).sub f_sub fun j a h1 h2 => List.mem_filter.mpr ⟨h2, decide_eq_true (show j ≠ i by omega)⟩, q.nd.sublist (List.Sublist.map _ List.filter_sublist), fun p hp => q.own p (List.mem_filter.mp hp).1, q.ext, q.bag, q.bag0, q.tab, fun y hy => q.al y (f_sub y hy), q.al0, q.mdb⟩
  by_cases e : j = i
  · subst e
    by_cases hi : j < τ.length
    · rw [List.getElem?_set_self hi] at hj
      cases hj
      exact ⟨v, by rw [List.getElem?_set_self (by rw [← q.len]; exact hi)], Dat.sub f_sub hd⟩
    · rw [List.getElem?_eq_none (by rw [List.length_set]; omega)] at hj
      cases hj
  · rw [List.getElem?_set_ne (Ne.symm e)] at hj ⊢
    obtain ⟨u, hu, k⟩ := q.slot j s hj
    exact ⟨u, hu, k.sub f_sub fun a ha => List.mem_filter.mpr ⟨ha, decide_eq_true e⟩⟩
/-- a slot is set to a new list of its own -/
theorem Rel.putO {a : Addr} {vs : List V} {ds : List DV} (q : Rel K W Γ O [a] τ n σ H) {i : Nat} (i6 : i < 1000000) (ha : H a = some (.lst vs)) (hn : a ∉ ad O ++ W.M0) (oc : OwnC W a) (hd : DatL K W.b (a :: (ad O ++ W.M0)) H vs ds) :
    Rel K W Γ ((i, a) :: O.filter (fun p => decide (p.1 ≠ i))) [] (τ.set i (some (.own ds))) n (σ.set i (some (.ref a))) H := by
  have s : ∀ y ∈ ad ((i, a) :: O.filter (fun p => decide (p.1 ≠ i))) ++ W.M0, y ∈ a :: (ad O ++ W.M0) := fun y hy => by
    rcases List.mem_cons.mp (show y ∈ a :: (ad (O.filter (fun p => decide (p.1 ≠ i))) ++ W.M0) from hy) with rfl | hy
    · exact List.mem_cons_self
    · exact List.mem_cons_of_mem _ (f_sub y hy)
  refine ⟨by rw [List.length_set, List.length_set]; exact q.len, by rw [List.length_set]; exact q.few, fun j s' hj => ?_, fun g hg => (q.gh g hg).sub s fun j a h1 h2 => List.mem_cons_of_mem _ (List.mem_filter.mpr ⟨h2, decide_eq_true (show j ≠ i by omega)⟩), ?_, fun p hp => ?_, q.ext, q.bag, q.bag0, q.tab, fun y hy => ?_, q.al0, q.mdb⟩
  · by_cases e : j = i
    · subst e
      by_cases hi : j < τ.length
      · rw [List.getElem?_set_self hi] at hj
        cases hj
        exact ⟨.ref a, by rw [List.getElem?_set_self (by rw [← q.len]; exact hi)], a, vs, rfl, List.mem_cons_self, ha, DatL.sub s hd⟩
      · rw [List.getElem?_eq_none (by rw [List.length_set]; omega)] at hj
        cases hj
    · rw [List.getElem?_set_ne (Ne.symm e)] at hj ⊢
      obtain ⟨u, hu, k⟩ := q.slot j s' hj
      exact ⟨u, hu, k.sub s fun a ha => List.mem_cons_of_mem _ (List.mem_filter.mpr ⟨ha, decide_eq_true e⟩)⟩
  · refine List.nodup_cons.mpr ⟨fun z => hn ?_, q.nd.sublist (List.Sublist.map _ List.filter_sublist)⟩
    obtain ⟨p, hp, e⟩ := List.mem_map.mp z
    exact List.mem_append_left _ (List.mem_map.mpr ⟨p, (List.mem_filter.mp hp).1, e⟩)
  · rcases List.mem_cons.mp hp with rfl | hp
    · exact oc
    · exact q.own p (List.mem_filter.mp hp).1
  · rcases List.mem_cons.mp (s y hy) with rfl | h
    · exact ⟨_, ha, .inl ⟨_, rfl⟩⟩
    · exact q.al y h
theorem tabs_ne {T : List (Addr × Str)} {b : Addr} {o0 : HO} (hb : H b = some o0) (n1 : ∀ ps, o0 ≠ .tbl ps) (n2 : ∀ phi, o0 ≠ .ext phi) (e : BF.Ex [b] H H') (t : LamX.Tabs T H) : LamX.Tabs T H' := fun p hp => by
  obtain ⟨ps, h1, h2, h3⟩ := t p hp
  have n : ∀ {c : Addr} {o : HO}, H c = some o → o ≠ o0 → c ∉ [b] := fun {c o} hc hne z => by
    rw [List.mem_singleton.mp z, hb] at hc
    exact hne (Option.some.inj hc).symm
  refine ⟨ps, e _ _ (n h1 fun z => n1 _ z.symm) h1, h2, fun pos cv hc => ?_⟩
  obtain ⟨c, e1, e2⟩ := h3 pos cv hc
  exact ⟨c, e1, e _ _ (n e2 (by unfold LamX.CodeO; exact fun z => n2 _ z.symm)) e2⟩
/-- what a slot owns is changed -/
theorem Rel.mut (q : Rel K W Γ O [] τ n σ H) {i : Nat} {a : Addr} {v : V} {o0 : HO} {s' : SV} (i6 : i < 1000000) (hO : (i, a) ∈ O) (ho : H a = some o0) (n1 : ∀ ps, o0 ≠ .tbl ps) (n2 : ∀ phi, o0 ≠ .ext phi) (e : BF.Ex [a] H H') (ha' : ∃ o, H' a = some o ∧ IsM o) (hv : σ[i]? = some (some v))
    (hs : SlOk K W.b O (ad O ++ W.M0) H' i v s') : Rel K W Γ O [] (τ.set i (some s')) n σ H' := by
  have oc := q.own _ hO
  have ain : ∀ x ∈ [a], x ∈ ad O ++ W.M0 := fun x hx => by
    rw [List.mem_singleton.mp hx]
    exact List.mem_append_left _ (List.mem_map.mpr ⟨_, hO, rfl⟩)
  have ee : Ey (ad O ++ W.M0) H H' := (Ey.ex e).sub ain
  refine ⟨by rw [List.length_set]; exact q.len, by rw [List.length_set]; exact q.few, fun j s hj => ?_, fun g hg => (q.gh g hg).ey (Ey.ex e) ain fun j b vs ds eg z => ?_, q.nd, q.own, fun x o hx h0 ht => ?_, W.Bk (fun x o hx h => e x o ?_ h) q.bag, q.bag0, tabs_ne ho n1 n2 e q.tab, fun y hy => ?_, q.al0, q.mdb⟩
  · by_cases ej : j = i
    · subst ej
      have hi : j < τ.length := by
        have := (List.getElem?_eq_some_iff.mp hv).1
        rw [q.len]
        exact this
      rw [List.getElem?_set_self hi] at hj
      cases hj
      exact ⟨v, hv, hs⟩
    · rw [List.getElem?_set_ne (Ne.symm ej)] at hj
      obtain ⟨u, hu, k⟩ := q.slot j s hj
      refine ⟨u, hu, k.ey (Ey.ex e) ain fun b hb z => ?_⟩
      rw [List.mem_singleton] at z
      subst z
      exact ej (nd_inj q.nd hb hO)
  · subst eg
    have h := q.gh _ hg
    rw [List.mem_singleton] at z
    subst z
    have := nd_inj q.nd h.2.1 hO
    have := h.1
    omega
  · have h1 := q.ext x o hx h0 ht
    by_cases z : x = a
    · subst z
      rcases oc.1 o h0 with m | ⟨ps, m⟩
      · exact absurd m hx
      · exact absurd m (ht ps)
    · exact e _ _ (by simpa using z) h1
  · intro z
    rw [List.mem_singleton] at z
    subst z
    exact oc.2.2 hx
  · by_cases z : y = a
    · subst z
      exact ha'
    · obtain ⟨o, h, t⟩ := q.al y hy
      exact ⟨o, e _ _ (by simpa using z) h, t⟩
end
section
variable {K : PySem.W.Frag} {W : Wc} {X : Cx} {a b c e : Expr} {es : List Expr} {wa wb wc we wx : WE} {wr wi : WA} {t : WT} {ws wt wu : WS} {pos pos' : Pos} {st : Stmt} {rest : List Stmt} {g : WG} {gs : WGs} {tg : Expr}
theorem PSs.imp {s : List Stmt} {t t' : TS} (h : PSs X s t) (i : ∀ D σ H, t' D σ H → t D σ H) : PSs X s t' := ⟨fun pins s σ H D I q => h.run pins s σ H D I (i D σ H q)⟩
theorem PG.imp {t t' : TG} (h : PG X tg t) (i : ∀ v σ H Q, t' v σ H Q → t v σ H Q) : PG X tg t' := ⟨fun pins s σ H v u Q I r q => h.run pins s σ H v u Q I r (i v σ H Q q)⟩
theorem PGs.imp {t t' : TGs} (h : PGs X es t) (i : ∀ v σ H Q, t' v σ H Q → t v σ H Q) : PGs X es t' := ⟨fun pins s σ H v u Q I r q => h.run pins s σ H v u Q I r (i v σ H Q q)⟩
theorem PI.imp {wi wi' : TI} (h : PI X tg e wi) (i : ∀ σ H R, wi' σ H R → wi σ H R) : PI X tg e wi' := ⟨fun pins s σ H R I q => h.run pins s σ H R I (i σ H R q)⟩
theorem vss_nil : PSs X [] (liftS K W wNext) := PSs.imp pss_nil fun D σ H ⟨Γ, O, τ, n, D', q, hw, l⟩ => l.nx σ H τ n O q hw
theorem vss_one (h : PS X st (liftS K W ws)) : PSs X [st] (liftS K W ws) := pss_one h
theorem vss_cons (h1 : PS X st (liftS K W ws)) (h2 : PSs X rest (liftS K W wt)) : PSs X (st :: rest) (liftS K W (wSeq ws wt)) := PSs.imp (pss_cons h1 h2) fun D σ H ⟨Γ, O, τ, n, D', q, hw, l⟩ =>
  ⟨Γ, O, τ, n, _, q, hw, ⟨fun σ' H' τ' n' O' q' hq => ⟨Γ, O', τ', n', D', q', hq, l⟩, l.bk, l.ct, l.rt⟩⟩
theorem vs_pass (h : PS X st tNext) : PS X st (liftS K W wNext) := BF.PS.imp' h fun D σ H ⟨Γ, O, τ, n, D', q, hw, l⟩ => l.nx σ H τ n O q hw
theorem vs_brk (h : PS X st tBreak) : PS X st (liftS K W wBrk) := BF.PS.imp' h fun D σ H ⟨Γ, O, τ, n, D', q, hw, l⟩ => l.bk σ H τ n O q hw
theorem vs_cnt (h : PS X st tCont) : PS X st (liftS K W wCnt) := BF.PS.imp' h fun D σ H ⟨Γ, O, τ, n, D', q, hw, l⟩ => l.ct σ H τ n O q hw
theorem vs_set {i : Nat} (h : PS X st (tAsg (liftE K W we) (gName i))) (i6 : i < 1000000 := by decide) : PS X st (liftS K W (wSet i we)) := BF.PS.imp' h fun D σ H ⟨Γ, O, τ, n, D', q, hw, l⟩ =>
  ⟨Γ, O, τ, n, _, q, hw, fun v H1 d O1 τ1 n1 q1 d1 hq => l.nx _ H1 _ n1 _ (q1.put i6 d1) hq⟩
theorem vs_setO {i : Nat} (h : PS X st (tAsg (liftO K W wr) (gName i))) (i6 : i < 1000000 := by decide) : PS X st (liftS K W (wSetO i wr)) := BF.PS.imp' h fun D σ H ⟨Γ, O, τ, n, D', q, hw, l⟩ =>
  ⟨Γ, O, τ, n, _, q, hw, fun a vs H1 ds O1 τ1 n1 q1 h1 h2 h3 d1 hq => l.nx _ H1 _ n1 _ (q1.putO i6 h1 h2 h3 d1) hq⟩
theorem vg_name {i : Nat} (h : PG X tg (gName i)) (i6 : i < 1000000 := by decide) : PG X tg (liftG K W [i] (wName i)) := PG.imp h fun v σ H Q ⟨Γ, O, τ, n, d, Q', q, hd, hw, k⟩ => k _ _ _ Sm.set (q.put i6 hd) hw
theorem vgs_nil : PGs X [] (liftGs K W [] wGNil) := PGs.imp pgs_nil fun vs σ H Q ⟨Γ, O, τ, n, ds, Q', q, hd, ⟨e, hw⟩, k⟩ => by
  subst e
  cases hd
  exact ⟨rfl, k _ _ _ (Sm.refl _) q hw⟩
theorem vgs_cons {S S' : List Nat} (h1 : PG X e (liftG K W S g)) (h2 : PGs X es (liftGs K W S' gs)) (hs : (assignEach (e :: es) X.env).map (·.2) = assign e X.env :: (assignEach es X.env).map (·.2) := by rfl) : PGs X (e :: es) (liftGs K W (S ++ S') (wGCons g gs)) :=
  PGs.imp (pgs_cons h1 h2 hs) fun vs σ H Q ⟨Γ, O, τ, n, ds, Q', q, hd, ⟨d, r, e, hw⟩, k⟩ => by
    subst e
    cases hd with
    | cons dv dl =>
      refine ⟨_, _, rfl, .dl _ _ :: Γ, O, τ, n, d, _, q.gcons dl, dv, hw, fun σ' O' τ' m' q' hq => ?_⟩
      exact ⟨Γ, O', τ', n, r, Q', q'.tail, q'.gh (.dl _ _) List.mem_cons_self, hq, fun σ'' O'' τ'' m'' q'' hq'' => k _ _ _ (m'.tr m'') q'' hq''⟩
theorem vg_tup {S : List Nat} {k m : Nat} (hK : X.K = K) (hc : X.calm = true) (h : PGs X es (liftGs K W S gs)) (hn : (assignEach es X.env).length = m := by rfl) (hst : (assignEach es X.env).findIdx? (·.1) = none := by rfl) : PG X (.Tuple es k pos) (liftG K W S (wGTup m gs)) := by
  subst hK
  refine PG.imp (pg_tup hc h hn hst) fun v σ H Q ⟨Γ, O, τ, n, d, Q', q, hd, ⟨ds, e, hl, hw⟩, k⟩ => ?_
  subst e
  cases hd with
  | tup h1 h2 => exact ⟨_, _, rfl, h1.1, by rw [h2.length]; exact hl, Γ, O, τ, n, ds, Q', q, h2, hw, k⟩
theorem vs_asg {S : List Nat} (h : PS X st (tAsg (liftE K W we) (liftG K W S g))) : PS X st (liftS K W (wAsg we g)) := BF.PS.imp' h fun D σ H ⟨Γ, O, τ, n, D', q, hw, l⟩ =>
  ⟨Γ, O, τ, n, _, q, hw, fun v H1 d O1 τ1 n1 q1 d1 hq => ⟨Γ, O1, τ1, n1, d, _, q1, d1, hq, fun σ' O' τ' _ q' hq' => l.nx σ' H1 τ' n1 O' q' hq'⟩⟩
theorem vs_par {i j : Nat} (h : PS X st (tPar i j (liftA K W wr))) (i6 : i < 1000000 := by decide) (j6 : j < 1000000 := by decide) : PS X st (liftS K W (wPar i j wr)) := BF.PS.imp' h fun D σ H ⟨Γ, O, τ, n, D', q, hw, l⟩ =>
  ⟨Γ, O, τ, n, _, q, hw, fun vs H1 ds O1 τ1 n1 q1 d1 ⟨d, e, ed, hq⟩ => by
    subst ed
    cases d1 with
    | cons h1 h2 =>
      cases h2 with
      | cons h2 h3 =>
        cases h3
        exact ⟨_, _, rfl, l.nx _ H1 _ n1 _ ((q1.put i6 h1).put j6 (Dat.sub f_sub h2)) hq⟩⟩
theorem vs_ret (h : PS X st (tRet (liftE K W we))) : PS X st (liftS K W (wRet we)) := BF.PS.imp' h fun D σ H ⟨Γ, O, τ, n, D', q, hw, l⟩ =>
  ⟨Γ, O, τ, n, _, q, hw, fun v H1 d O1 τ1 n1 q1 d1 hq => l.rt v H1 d n1 ⟨q1.ext, q1.bag, q1.tab, fun x hx => q1.al x (sub_M0 x hx), Dat.sub sub_M0 d1⟩ hq⟩
theorem vs_retN (h : PS X st tRetN) : PS X st (liftS K W wRetN) := BF.PS.imp' h fun D σ H ⟨Γ, O, τ, n, D', q, hw, l⟩ => l.rt .non H .non n ⟨q.ext, q.bag, q.tab, fun x hx => q.al x (sub_M0 x hx), .non⟩ hw
theorem vs_if {c : Expr} {x y : List Stmt} (hc : PT X c (liftT K W t)) (h1 : PSs X x (liftS K W ws)) (h2 : PSs X y (liftS K W wt)) : PS X (.If c x y pos) (liftS K W (wIfS t ws wt)) := BF.PS.imp' (ps_if hc h1 h2) fun D σ H ⟨Γ, O, τ, n, D', q, hw, l⟩ =>
  ⟨Γ, O, τ, n, _, q, hw, fun b H1 O1 τ1 n1 q1 hq => by
    cases b with
    | true => exact ⟨Γ, O1, τ1, n1, D', q1, hq, l⟩
    | false => exact ⟨Γ, O1, τ1, n1, D', q1, hq, l⟩⟩
theorem vs_drop (h : PS X st (tDrop (liftE K W we))) : PS X st (liftS K W (wDrop we)) := BF.PS.imp' h fun D σ H ⟨Γ, O, τ, n, D', q, hw, l⟩ => ⟨Γ, O, τ, n, _, q, hw, fun v H1 d O1 τ1 n1 q1 d1 hq => l.nx _ H1 _ n1 _ q1 hq⟩
theorem vs_app {i : Nat} (h : PS X st (tDrop (tBM K "list" rAppend (tVar i) (liftA K W wr)))) (i6 : i < 1000000 := by decide) : PS X st (liftS K W (wApp i wr)) := BF.PS.imp' h fun D σ H ⟨Γ, O, τ, n, D', q, ⟨⟨xs0, h0⟩, hw⟩, l⟩ => by
  obtain ⟨v, hv, a, vs, e1, e2, e3, e4⟩ := q.slot i _ h0
  subst e1
  refine ⟨_, hv, BF.x_tyL e3 ?_⟩
  · refine ⟨Γ, O, τ, n, _, q, hw, fun us H1 ds O1 τ1 n1 q1 d1 ⟨d, xs, ed, hx, hl, hq⟩ => ?_⟩
    subst ed
    cases d1 with
    | @cons v1 vs1 _ _ dd dn =>
      cases dn
      obtain ⟨v', hv', a', vs', f1, f2, f3, f4⟩ := q1.slot i _ hx
      obtain rfl : V.ref a = v' := by
        rw [hv] at hv'
        exact Option.some.inj (Option.some.inj hv')
      cases f1
      refine ⟨a, vs', _, rfl, rfl, f3, BF.sz_lt (by rw [f4.length]; exact hl), ?_⟩
      refine l.nx _ _ _ n1 O1 (q1.mut (s' := .own _) i6 f2 f3 nofun nofun (BF.Ex.wr (by simp) (BF.Ex.refl H1)) ⟨_, upd_same, .inl ⟨_, rfl⟩⟩ hv ⟨a, _, rfl, f2, upd_same, ?_⟩) hq
      have ee : Ey (ad O1 ++ W.M0) H1 (upd H1 a (.lst (vs' ++ [v1]))) := (Ey.ex (BF.Ex.wr (M := [a]) (by simp) (BF.Ex.refl H1))).sub fun x hx => by
        rw [List.mem_singleton.mp hx]
        exact List.mem_append_left _ (List.mem_map.mpr ⟨_, f2, rfl⟩)
      exact DatL.app (DatL.ey ee f4) (.cons (Dat.ey ee dd) .nil)
theorem vs_setI {i : Nat} (h : PS X st (tAsg (liftE K W we) (gSub (tVar i) (liftE K W wx) rSetL))) (i6 : i < 1000000 := by decide) : PS X st (liftS K W (wSetI i wx we)) := BF.PS.imp' h fun D σ H ⟨Γ, O, τ, n, D', q, hw, l⟩ => by
  refine ⟨Γ, O, τ, n, _, q, hw, fun v H1 d O1 τ1 n1 q1 d1 ⟨⟨xs0, h0⟩, hw1⟩ => ?_⟩
  obtain ⟨u, hu, a, vs, e1, e2, e3, e4⟩ := q1.slot i _ h0
  refine ⟨u, hu, .d v d :: Γ, O1, τ1, n1, _, q1.gcons d1, hw1, fun kv H2 k O2 τ2 n2 q2 d2 ⟨z, j, xs, ek, hx, hj, hq⟩ => ?_⟩
  subst ek
  obtain ⟨u', hu', a', vs', f1, f2, f3, f4⟩ := q2.slot i _ hx
  obtain rfl : u = u' := by
    rw [hu] at hu'
    exact Option.some.inj (Option.some.inj hu')
  subst f1
  refine ⟨a', vs', z, j, rfl, int_of d2, f3, by rw [f4.length]; exact hj, ?_⟩
  refine l.nx _ _ _ n2 O2 (q2.tail.mut (s' := .own _) i6 f2 f3 nofun nofun (BF.Ex.wr (by simp) (BF.Ex.refl H2)) ⟨_, upd_same, .inl ⟨_, rfl⟩⟩ hu ⟨a', _, rfl, f2, upd_same, ?_⟩) hq
  have ee : Ey (ad O2 ++ W.M0) H2 (upd H2 a' (.lst (vs'.set j v))) := (Ey.ex (BF.Ex.wr (M := [a']) (by simp) (BF.Ex.refl H2))).sub fun x hx => by
    rw [List.mem_singleton.mp hx]
    exact List.mem_append_left _ (List.mem_map.mpr ⟨_, f2, rfl⟩)
  exact DatL.set j (DatL.ey ee f4) (Dat.ey ee q2.head)
theorem putF_zip {b : Addr} {M : List Addr} {H : Hp} {f : Str} {v : V} {d : DV} (hd : Dat K b M H v d) : ∀ {ns : List Str} {vs : List V} {ds : List DV}, ns.length = vs.length → DatL K b M H vs ds → ∃ ws, putF f v (ns.zip vs) = (pfN f ns).zip ws ∧ (pfN f ns).length = ws.length ∧ DatL K b M H ws (pfD f d ns ds)
  | [], [], _, _, .nil => ⟨[v], rfl, rfl, .cons hd .nil⟩
  | g :: ns, w :: vs, _, hl, .cons hw l => by
    by_cases e : g = f
    · subst e
      refine ⟨v :: vs, ?_, ?_, ?_⟩
      · rw [List.zip_cons_cons, BF.putF_eq]
        simp [pfN]
      · simp [pfN] at hl ⊢
        exact hl
      · simp only [pfD, if_pos]
        exact .cons hd l
    · obtain ⟨ws, h1, h2, h3⟩ := putF_zip hd (f := f) (ns := ns) (by simpa using hl) l
      refine ⟨w :: ws, ?_, ?_, ?_⟩
      · rw [List.zip_cons_cons, BF.putF_ne e h1]
        simp [pfN, if_neg e]
      · simp [pfN, if_neg e, h2]
      · simp only [pfD, if_neg e]
        exact .cons hw h3
theorem vs_setF {i : Nat} {f : Str} (h : PS X st (BF.sFldE K (tVar i) (liftE K W we) f)) (i6 : i < 1000000 := by decide) : PS X st (liftS K W (wSetF K i f we)) := BF.PS.imp' h fun D σ H ⟨Γ, O, τ, n, D', q, hw, l⟩ => by
  refine ⟨Γ, O, τ, n, _, q, hw, fun v H1 d O1 τ1 n1 q1 d1 ⟨z, c, ns, ds, h0, ok, hl, hq⟩ => ?_⟩
  obtain ⟨u, hu, dx, vs, e1, e2, e3, e4, e5⟩ := q1.slot i _ h0
  obtain ⟨ws, w1, w2, w3⟩ := putF_zip (f := f) d1 e4 e5
  refine ⟨u, hu, z, _, dx, _, _, e1, e3, ok.1, ok.2, ?_, w1, fun H' ex h' => ?_⟩
  · rw [List.length_zip]
    omega
  · have ee : Ey (ad O1 ++ W.M0) H1 H' := (Ey.ex ex).sub fun x hx => by
      rw [List.mem_singleton.mp hx]
      exact List.mem_append_left _ (List.mem_map.mpr ⟨_, e2, rfl⟩)
    exact l.nx _ _ _ n1 O1 (q1.mut (s' := .self _ _ _ _) i6 e2 e3 nofun nofun ex ⟨_, h', .inr ⟨_, _, _, rfl⟩⟩ hu ⟨dx, ws, e1, e2, h', w2, DatL.ey ee w3⟩) hq
theorem vs_while {cond : Expr} {body : List Stmt} (hp : PassesOwn (model X.prog X.w) X.A X.env X.xe) (hc : PT X cond (liftT K W t)) (hb : PSs X body (liftS K W ws)) : PS X (.While cond body [] pos) (liftS K W (wWhile t ws)) :=
  BF.PS.imp' (ps_while hp hc hb) fun D σ H ⟨Γ, O, τ, n, D', q, ⟨I, ⟨m0, h0⟩, hI⟩, l⟩ => by
    refine ⟨fun m σ H => ∃ O τ n, Rel K W Γ O [] τ n σ H ∧ I m τ n, ⟨m0, O, τ, n, q, h0⟩, ?_⟩
    rintro m σ1 H1 ⟨O1, τ1, n1, q1, h1⟩
    refine ⟨Γ, O1, τ1, n1, _, q1, hI m τ1 n1 h1, fun b H2 O2 τ2 n2 q2 hq => ?_⟩
    cases b with
    | false => exact l.nx _ _ _ _ _ q2 hq
    | true =>
      refine ⟨fun σ H => ∃ m', m' < m ∧ ∃ O τ n, Rel K W Γ O [] τ n σ H ∧ I m' τ n, fun _ _ h => h, Γ, O2, τ2, n2, _, q2, hq, ?_⟩
      exact ⟨fun σ H τ n O q ⟨m', hm, hi⟩ => ⟨m', hm, O, τ, n, q, hi⟩, l.nx, fun σ H τ n O q ⟨m', hm, hi⟩ => ⟨m', hm, O, τ, n, q, hi⟩, l.rt⟩
theorem vs_for {S : List Nat} {iter : Expr} {body : List Stmt} (hp : PassesOwn (model X.prog X.w) X.A X.env X.xe) (hc : X.calm = true) (hi : PI X tg iter (liftI K W wi)) (hg : PG X tg (liftG K W S g)) (hb : PSs X body (liftS K W ws))
    (hs : ∀ x, foldedSetIterable iter X.env x = pure x := by intro _; rfl) : PS X (.For tg iter body [] pos) (liftS K W (wFor wi g ws)) :=
  BF.PS.imp' (ps_for hp hc hi hg hb hs) fun D σ H ⟨Γ, O, τ, n, D', q, hw, l⟩ => by
    refine ⟨Γ, O, τ, n, _, q, hw, fun J H1 gs ds O1 τ1 n1 q1 ⟨G, Y, wk, hG, hY⟩ ⟨I, h0, hs, hd⟩ => ?_⟩
    refine for_it wk (fun i σ H => ∃ O τ n, Rel K W (gs ++ Γ) O [] τ n σ H ∧ I i τ n) ⟨O1, τ1, n1, q1, h0⟩ (fun i σ H _ ⟨O, τ, n, q, _⟩ => hG _ _ H fun g hg => q.gh g (List.mem_append_left _ hg)) ?_ ?_
    · rintro i x σ2 H2 H3 hi ⟨O2, τ2, n2, q2, h2⟩ y
      obtain ⟨ex, d, hdd, dd⟩ := hY _ _ H2 i x H3 (fun g hg => q2.gh g (List.mem_append_left _ hg)) q2.al hi y
      refine ⟨gs ++ Γ, O2, τ2, n2, d, _, q2.ex ex, dd, hs i d τ2 n2 hdd h2, fun σ' O' τ' _ q' hq' => ?_⟩
      refine ⟨gs ++ Γ, O', τ', n2, _, q', hq', ?_⟩
      exact ⟨fun σ H τ n O q h => ⟨O, τ, n, q, h⟩, fun σ H τ n O q h => l.nx _ _ _ _ _ q.rest h, fun σ H τ n O q h => ⟨O, τ, n, q, h⟩, l.rt⟩
    · rintro σ2 H2 ⟨O2, τ2, n2, q2, h2⟩
      exact l.nx _ _ _ _ _ q2.rest (hd _ _ h2)
theorem vs_raise {cl : Str} {ns : List Str} {gd : List DV → List DV} {k : Nat} {fs : List V → List (Str × V)} (hE : ELink K W)
    (h : PS X st (fun _ σ H => BF.tRs (He.ga K cl) k fs (liftA K W wr) σ H fun cls d H' => W.E cls d H'))
    (hf : ∀ b M H vs ds, DatL K b M H vs ds → vs.length = k → ∃ ws, fs vs = ns.zip ws ∧ ns.length = ws.length ∧ DatL K b M H ws (gd ds)) : PS X st (liftS K W (wRaise cl ns gd k W.E' wr)) := BF.PS.imp' h fun D σ H ⟨Γ, O, τ, n, D', q, hw, l⟩ => by
  refine ⟨Γ, O, τ, n, _, q, hw, fun vs H1 ds O1 τ1 n1 q1 d1 ⟨hl, hq⟩ => ⟨by rw [d1.length]; exact hl, fun d H' hn ex hd => ?_⟩⟩
  obtain ⟨ws, e1, e2, e3⟩ := hf _ _ _ _ _ d1 (by rw [d1.length]; exact hl)
  have q2 := q1.ex ex
  exact hE cl ns ws (gd ds) d H' n1 q2.ext (fun x hx => q2.al x (sub_M0 x hx)) q2.bag q2.tab (by rw [hd, e1]) e2 (DatL.sub sub_M0 (DatL.ey (Ey.ex0 ex) e3)) hq
end
end VF
/-! ## Comprehensions, what a loop walks, a def by its body -/
namespace VF
open PySem PySem.Spec PyProof.Rows L2
def wipeT (τ : ST) : List Nat → ST
  | [] => τ
  | v :: vs => (wipeT τ vs).set v none
def wYes : WT := fun τ n Q => Q true τ n
/-- the slots vs hold no list of their own -/
def NoOwn (τ : ST) (vs : List Nat) : Prop := ∀ i ∈ vs, ∀ s, τ[i]? = some (some s) → ∃ x, s = .d x
/-- by an invariant of the turn, the list so far, the draws -/
def wLcGo (g : WG) (t : WT) (we : WE) (vs : List Nat) (ds : List DV) (τ : ST) (n : Int) (Q : List DV → ST → Int → Prop) : Prop := ∃ I : Nat → List DV → Int → Prop, I 0 [] n ∧
  (∀ i d acc n, ds[i]? = some d → I i acc n → g d (wipeT τ vs) fun τ1 => t τ1 n fun b τ2 n2 => wipeT τ2 vs = wipeT τ vs ∧ if b = true then we τ2 n2 fun y τ3 n3 => wipeT τ3 vs = wipeT τ vs ∧ acc.length < 1000000 ∧ I (i + 1) (acc ++ [y]) n3 else I (i + 1) acc n2) ∧ ∀ acc n, I ds.length acc n → Q acc τ n
def wLc (wi : WA) (g : WG) (t : WT) (we : WE) (vs : List Nat) : WA := fun τ n Q => wi τ n fun ds τ1 n1 => NoOwn τ1 vs ∧ wLcGo g t we vs ds τ1 n1 Q
def wOL (wo : WA) : WE := fun τ n Q => wo τ n fun ds τ1 n1 => Q (.lst ds) τ1 n1
section
variable {K : PySem.W.Frag} {W : Wc} {Γ Γ' : List Gh} {O : Om} {τ : ST} {n : Int} {σ : L2.St} {H H' : Hp} {L : List Addr}
theorem wipeT_len : ∀ {vs : List Nat}, (wipeT τ vs).length = τ.length
  | [] => rfl
  | v :: vs => by unfold wipeT; rw [List.length_set, wipeT_len (vs := vs)]
theorem wipe_len : ∀ {vs : List Nat}, (wipe σ vs).length = σ.length
  | [] => rfl
  | v :: vs => by unfold wipe; rw [List.length_set, wipe_len (vs := vs)]
theorem wipeT_in : ∀ {vs : List Nat} {i : Nat} {s : SV}, (wipeT τ vs)[i]? = some (some s) → τ[i]? = some (some s) ∧ i ∉ vs
  | [], i, s, h => ⟨h, by simp⟩
  | v :: vs, i, s, h => by
    unfold wipeT at h
    by_cases e : v = i
    · subst e
      by_cases hi : v < (wipeT τ vs).length
      · rw [List.getElem?_set_self hi] at h
        cases h
      · rw [List.getElem?_eq_none (by rw [List.length_set]; omega)] at h
        cases h
    · rw [List.getElem?_set_ne e] at h
      obtain ⟨h1, h2⟩ := wipeT_in h
      exact ⟨h1, fun z => (List.mem_cons.mp z).elim (fun q => e q.symm) h2⟩
theorem wipe_out {α : Type} : ∀ {vs : List Nat} {i : Nat}, i ∉ vs → (wipe σ vs)[i]? = σ[i]?
  | [], i, h => rfl
  | v :: vs, i, h => by
    unfold wipe
    rw [List.getElem?_set_ne fun z => h (by rw [z]; exact List.mem_cons_self)]
    exact wipe_out (α := α) fun z => h (List.mem_cons_of_mem _ z)
theorem wipe_eq_set : ∀ {vs : List Nat} {i : Nat}, i ∈ vs → (wipe σ vs)[i]? = σ[i]?.map fun _ => none
  | v :: vs, i, h => by
    unfold wipe
    by_cases e : v = i
    · subst e
      by_cases hi : v < σ.length
      · rw [List.getElem?_set_self (by rw [wipe_len]; exact hi), List.getElem?_eq_getElem hi]
        rfl
      · rw [List.getElem?_eq_none (by rw [List.length_set, wipe_len]; omega), List.getElem?_eq_none (by omega)]
        rfl
    · rw [List.getElem?_set_ne e]
      exact wipe_eq_set ((List.mem_cons.mp h).elim (fun q => absurd q.symm e) id)
theorem wipe_sm {S vs : List Nat} {σ' : L2.St} (h : Sm S σ σ') (hs : ∀ i ∈ S, i ∈ vs) : wipe σ' vs = wipe σ vs := by
  apply List.ext_getElem?
  intro i
  by_cases hi : i ∈ vs
  · rw [wipe_eq_set hi, wipe_eq_set hi]
    by_cases hl : i < σ.length
    · rw [List.getElem?_eq_getElem (show i < σ'.length by rw [h.1]; exact hl), List.getElem?_eq_getElem hl]
      rfl
    · rw [List.getElem?_eq_none (by rw [h.1]; omega), List.getElem?_eq_none (by omega)]
  · rw [wipe_out (α := Nat) hi, wipe_out (α := Nat) hi]
    exact h.2 i fun z => hi (hs i z)
theorem Rel.wipe (q : Rel K W Γ O L τ n σ H) (vs : List Nat) : Rel K W Γ O L (wipeT τ vs) n (wipe σ vs) H :=
  ⟨by rw [wipeT_len, wipe_len]; exact q.len, by rw [wipeT_len]; exact q.few, fun i s hs => by
    obtain ⟨h1, h2⟩ := wipeT_in hs
    obtain ⟨v, hv, k⟩ := q.slot i s h1
    exact ⟨v, by rw [wipe_out (α := Nat) h2]; exact hv, k⟩, q.gh, q.nd, q.own, q.ext, q.bag, q.bag0, q.tab, q.al, q.al0, q.mdb⟩
/-- what the slots vs held -/
def svG (τ : ST) (σ : L2.St) (vs : List Nat) : List Gh := vs.filterMap fun i => (match τ[i]?, σ[i]? with
  | some (some (SV.d x)), some (some v) => some (Gh.d v x)
  | _, _ => none : Option Gh)
theorem svG_ok (q : Rel K W Γ O [] τ n σ H) {vs : List Nat} : ∀ g ∈ svG τ σ vs, GhOk K W.b O (ad O ++ W.M0) H g := fun g hg => by
  unfold svG at hg
  obtain ⟨i, _, hi⟩ := List.mem_filterMap.mp hg
  split at hi
  · rename_i x v h1 h2
    cases hi
    obtain ⟨u, hu, k⟩ := q.slot i _ h1
    rw [h2] at hu
    cases hu
    exact k
  · cases hi
theorem svG_at {vs : List Nat} {i : Nat} {x : DV} {v : V} (hi : i ∈ vs) (h1 : τ[i]? = some (some (.d x))) (h2 : σ[i]? = some (some v)) : Gh.d v x ∈ svG τ σ vs := by
  unfold svG
  exact List.mem_filterMap.mpr ⟨i, hi, by rw [h1, h2]⟩
/-- a list of the run's own, apart from all -/
theorem Rel.begin (q : Rel K W Γ O [] τ n σ H) {D : Addr} (hD : H D = none) : Rel K W (.o 1000000 D [] [] :: Γ) ((1000000, D) :: O) [] τ n σ (upd H D (.lst [])) := by
  have q1 := q.apart hD (BF.Ex.new (M := []) (o := .lst []) hD)
  refine ⟨q1.len, q1.few, fun i s hs => ?_, fun g hg => ?_, List.nodup_cons.mpr ⟨fun z => q.newO hD (List.mem_append_left _ z), q1.nd⟩, fun p hp => ?_, q1.ext, q1.bag, q1.bag0, q1.tab, fun x hx => ?_, q1.al0, q1.mdb⟩
  · obtain ⟨v, hv, k⟩ := q1.slot i s hs
    exact ⟨v, hv, k.sub (fun x h => h) fun a h => List.mem_cons_of_mem _ h⟩
  · rcases List.mem_cons.mp hg with rfl | hg
    · exact ⟨Nat.le_refl _, List.mem_cons_self, upd_same, .nil⟩
    · exact (q1.gh g hg).sub (fun x h => h) fun j a _ h => List.mem_cons_of_mem _ h
  · rcases List.mem_cons.mp hp with rfl | hp
    · exact q.ownC hD
    · exact q1.own p hp
  · rcases List.mem_cons.mp (show x ∈ D :: (ad O ++ W.M0) from hx) with rfl | hx
    · exact ⟨_, upd_same, .inl ⟨_, rfl⟩⟩
    · exact q1.al x hx
/-- .. grows -/
theorem Rel.grow {j : Nat} {D : Addr} {ws : List V} {acc : List DV} {v : V} {d : DV} (no : ∀ j' vs ds, Gh.o j' D vs ds ∉ Γ) (q : Rel K W (.o j D ws acc :: Γ) O [] τ n σ H) (hd : Dat K W.b (ad O ++ W.M0) H v d) : Rel K W (.o j D (ws ++ [v]) (acc ++ [d]) :: Γ) O [] τ n σ (upd H D (.lst (ws ++ [v]))) := by
  obtain ⟨hj, hO, hw, hl⟩ := q.gh (.o j D ws acc) List.mem_cons_self
  have oc := q.own _ hO
  have e : BF.Ex [D] H (upd H D (.lst (ws ++ [v]))) := BF.Ex.wr (by simp) (BF.Ex.refl H)
  have ain : ∀ x ∈ [D], x ∈ ad O ++ W.M0 := fun x hx => by
    rw [List.mem_singleton.mp hx]
    exact List.mem_append_left _ (List.mem_map.mpr ⟨_, hO, rfl⟩)
  have ee : Ey (ad O ++ W.M0) H (upd H D (.lst (ws ++ [v]))) := (Ey.ex e).sub ain
  have nb : ∀ i b, (i, b) ∈ O → i ≠ j → b ∉ [D] := fun i b hb ne z => by
    rw [List.mem_singleton] at z
    subst z
    exact ne (nd_inj q.nd hb hO)
  refine ⟨q.len, q.few, fun i s hs => ?_, fun g hg => ?_, q.nd, q.own, fun x o hx h0 ht => ?_, W.Bk (fun x o hx h => e x o (fun z => ?_) h) q.bag, q.bag0, tabs_ne hw nofun nofun e q.tab, fun y hy => ?_, q.al0, q.mdb⟩
  · obtain ⟨u, hu, k⟩ := q.slot i s hs
    have hi : i ≠ j := by
      have := (List.getElem?_eq_some_iff.mp hs).1
      have := q.few
      omega
    exact ⟨u, hu, k.ey (Ey.ex e) ain fun b hb => nb i b hb hi⟩
  · rcases List.mem_cons.mp hg with rfl | hg'
    · exact ⟨hj, hO, upd_same, DatL.app (DatL.ey ee hl) (.cons (Dat.ey ee hd) .nil)⟩
    · have k := q.gh g (List.mem_cons_of_mem _ hg')
      cases g with
      | d v x => exact Dat.ey ee k
      | dl vs ds => exact DatL.ey ee k
      | l a vs ds => exact ⟨k.1.ey ee, DatL.ey ee k.2⟩
      | t a vs ds => exact ⟨k.1.ey ee, DatL.ey ee k.2⟩
      | o j' a vs ds =>
        by_cases z : a = D
        · subst z
          exact absurd hg' (no _ _ _)
        · exact ⟨k.1, k.2.1, e _ _ (by simpa using z) k.2.2.1, DatL.ey ee k.2.2.2⟩
  · have h1 := q.ext x o hx h0 ht
    by_cases z : x = D
    · subst z
      rcases oc.1 o h0 with m | ⟨ps, m⟩
      · exact absurd m hx
      · exact absurd m (ht ps)
    · exact e _ _ (by simpa using z) h1
  · rw [List.mem_singleton] at z
    subst z
    exact oc.2.2 hx
  · by_cases z : y = D
    · subst z
      exact ⟨_, upd_same, .inl ⟨_, rfl⟩⟩
    · obtain ⟨o, h, t⟩ := q.al y hy
      exact ⟨o, e _ _ (by simpa using z) h, t⟩
/-- the end of a run's own list: it is a new list now -/
theorem Rel.finish {j : Nat} {D : Addr} {ws : List V} {acc : List DV} {vs : List Nat} {τ0 : ST} {σ0 : L2.St} (q : Rel K W (.o j D ws acc :: (Γ' ++ (svG τ0 σ0 vs ++ Γ))) O [] (wipeT τ0 vs) n (L2.wipe σ0 vs) H) (no : ∀ j' us ds, Gh.o j' D us ds ∉ Γ) (hn : NoOwn τ0 vs) (hl : τ0.length = σ0.length)
    (h0 : ∀ i ∈ vs, ∀ s, τ0[i]? = some (some s) → ∃ v, σ0[i]? = some (some v)) : ∃ O', Rel K W Γ O' [D] τ0 n σ0 H ∧ H D = some (.lst ws) ∧ D ∉ ad O' ++ W.M0 ∧ OwnC W D ∧ DatL K W.b (D :: (ad O' ++ W.M0)) H ws acc := by
  obtain ⟨hj, hO, hw, hd⟩ := q.gh (.o j D ws acc) List.mem_cons_self
  have s : ∀ y ∈ D :: (ad (O.filter (fun p => decide (p.2 ≠ D))) ++ W.M0), y ∈ ad O ++ W.M0 := fun y hy => by
    rcases List.mem_cons.mp hy with rfl | hy
    · exact List.mem_append_left _ (List.mem_map.mpr ⟨_, hO, rfl⟩)
    · rcases List.mem_append.mp hy with hy | hy
      · obtain ⟨p, hp, e⟩ := List.mem_map.mp hy
        exact List.mem_append_left _ (List.mem_map.mpr ⟨p, (List.mem_filter.mp hp).1, e⟩)
      · exact List.mem_append_right _ hy
  refine ⟨O.filter (fun p => decide (p.2 ≠ D)), ⟨hl, by rw [← wipeT_len (τ := τ0) (vs := vs)]; exact q.few, fun i sv hs => ?_, fun g hg => ?_, q.nd.sublist (List.Sublist.map _ List.filter_sublist), fun p hp => q.own p (List.mem_filter.mp hp).1, q.ext, q.bag, q.bag0, q.tab, fun y hy => q.al y (s y (List.mem_cons_of_mem _ hy)), q.al0, q.mdb⟩, hw, fun z => ?_, q.own _ hO, DatL.sub s hd⟩
  · by_cases hi : i ∈ vs
    · obtain ⟨x, rfl⟩ := hn i hi sv hs
      obtain ⟨v, hv⟩ := h0 i hi _ hs
      refine ⟨v, hv, ?_⟩
      have k := q.gh (.d v x) (List.mem_cons_of_mem _ (List.mem_append_right _ (List.mem_append_left _ (svG_at hi hs hv))))
      exact Dat.sub s k
    · have hs' : (wipeT τ0 vs)[i]? = some (some sv) := by
        have : ∀ (vs : List Nat), i ∉ vs → (wipeT τ0 vs)[i]? = τ0[i]? := by
          intro vs
          induction vs with
          | nil => intro _; rfl
          | cons v vs ih =>
            intro h
            unfold wipeT
            rw [List.getElem?_set_ne fun z => h (by rw [z]; exact List.mem_cons_self)]
            exact ih fun z => h (List.mem_cons_of_mem _ z)
        rw [this vs hi]
        exact hs
      obtain ⟨v, hv, k⟩ := q.slot i sv hs'
      rw [wipe_out (α := Nat) hi] at hv
      refine ⟨v, hv, k.sub s fun a ha => List.mem_filter.mpr ⟨ha, decide_eq_true fun z => ?_⟩⟩
      have z : a = D := z
      subst z
      have := nd_inj q.nd ha hO
      have h1 := (List.getElem?_eq_some_iff.mp hs').1
      have := q.few
      omega
  · have k := q.gh g (List.mem_cons_of_mem _ (List.mem_append_right _ (List.mem_append_right _ hg)))
    cases g with
    | d v x => exact Dat.sub s k
    | dl vs ds => exact DatL.sub s k
    | l a vs ds => exact ⟨k.1.sub s, DatL.sub s k.2⟩
    | t a vs ds => exact ⟨k.1.sub s, DatL.sub s k.2⟩
    | o j' a us ds =>
      refine ⟨k.1, List.mem_filter.mpr ⟨k.2.1, decide_eq_true fun z => ?_⟩, k.2.2.1, DatL.sub s k.2.2.2⟩
      have z : a = D := z
      subst z
      exact no _ _ _ hg
  · rcases List.mem_append.mp z with z | z
    · obtain ⟨p, hp, e⟩ := List.mem_map.mp z
      exact of_decide_eq_true (List.mem_filter.mp hp).2 e
    · exact (q.own _ hO).2.1 z
end
section
variable {K : PySem.W.Frag} {W : Wc} {X : Cx} {e : Expr} {wo wi : WA} {t : WT} {we : WE} {g : WG} {S : List Nat} {vs : List Nat}
theorem liftLc (hS : ∀ i ∈ S, i ∈ vs) {σ : L2.St} {H : Hp} {Q : VK} (h : liftO K W (wLc wi g t we vs) σ H Q) : tLc (liftI K W wi) (liftG K W S g) (liftT K W t) (liftE K W we) vs σ H Q := by
  obtain ⟨Γ, O, τ, n, Q', q, hw, k⟩ := h
  refine ⟨Γ, O, τ, n, _, q, hw, fun J H1 gs ds O1 τ1 n1 q1 ⟨G, Y, wk, hG, hY⟩ ⟨hno, I, hI0, hIs, hId⟩ => fun D hD => ?_⟩
  have sv := svG_ok (q1.rest) (vs := vs)
  have q2 : Rel K W (gs ++ (svG τ1 σ vs ++ Γ)) O1 [] τ1 n1 σ H1 := ⟨q1.len, q1.few, q1.slot, fun x hx => by
    rcases List.mem_append.mp hx with hx | hx
    · exact q1.gh x (List.mem_append_left _ hx)
    · rcases List.mem_append.mp hx with hx | hx
      · exact sv x hx
      · exact q1.gh x (List.mem_append_right _ hx), q1.nd, q1.own, q1.ext, q1.bag, q1.bag0, q1.tab, q1.al, q1.al0, q1.mdb⟩
  have noA : ∀ j us es, Gh.o j D us es ∉ gs ++ (svG τ1 σ vs ++ Γ) := fun j us es z => by
    have := (q2.gh _ z).2.2.1
    rw [hD] at this
    cases this
  have q3 := (q2.begin hD).wipe vs
  refine lc_it wk (fun i H => ∃ O n ws acc, Rel K W (.o 1000000 D ws acc :: (gs ++ (svG τ1 σ vs ++ Γ))) O [] (wipeT τ1 vs) n (wipe σ vs) H ∧ I i acc n) ⟨_, n1, [], [], q3, hI0⟩ (fun i H _ ⟨O, n, ws, acc, q, _⟩ => hG _ _ H fun x hx => q.gh x (List.mem_cons_of_mem _ (List.mem_append_left _ hx))) ?_ ?_
  · rintro i x H2 H3 hi ⟨O2, n2, ws, acc, q2, h2⟩ y
    obtain ⟨ex, d, hd, dd⟩ := hY _ _ H2 i x H3 (fun x hx => q2.gh x (List.mem_cons_of_mem _ (List.mem_append_left _ hx))) q2.al hi y
    refine ⟨_, O2, wipeT τ1 vs, n2, d, _, q2.ex ex, dd, hIs i d acc n2 hd h2, fun σ4 O4 τ4 sm4 q4 h4 => ⟨?_, ?_⟩⟩
    · rw [wipe_sm sm4 hS]
      refine wipe_sm (S := vs) ⟨wipe_len, fun i hi => wipe_out (α := Nat) hi⟩ fun _ h => h
    · have hw4 : wipe σ4 vs = wipe σ vs := by
        rw [wipe_sm sm4 hS]
        exact wipe_sm (S := vs) ⟨wipe_len, fun i hi => wipe_out (α := Nat) hi⟩ fun _ h => h
      have hwT : wipeT (wipeT τ1 vs) vs = wipeT τ1 vs := by
        apply List.ext_getElem?
        intro i
        by_cases hz : ∃ s, (wipeT (wipeT τ1 vs) vs)[i]? = some (some s)
        · obtain ⟨s, hs⟩ := hz
          rw [hs, (wipeT_in hs).1]
        · by_cases hz' : ∃ s, (wipeT τ1 vs)[i]? = some (some s)
          · exfalso
            obtain ⟨s, hs⟩ := hz'
            have hn := (wipeT_in hs).2
            have out : ∀ (us : List Nat) (τ : ST), i ∉ us → (wipeT τ us)[i]? = τ[i]? := by
              intro us τ
              induction us with
              | nil => intro _; rfl
              | cons v us ih =>
                intro h
                unfold wipeT
                rw [List.getElem?_set_ne fun z => h (by rw [z]; exact List.mem_cons_self)]
                exact ih fun z => h (List.mem_cons_of_mem _ z)
            exact hz ⟨s, by rw [out vs _ hn]; exact hs⟩
          · have f : ∀ (l : ST), (¬ ∃ s, l[i]? = some (some s)) → l[i]? = if i < l.length then some none else none := by
              intro l hl
              by_cases hi : i < l.length
              · rw [if_pos hi, List.getElem?_eq_getElem hi]
                cases e : l[i] with
                | none => rfl
                | some s => exact absurd ⟨s, by rw [List.getElem?_eq_getElem hi, e]⟩ hl
              · rw [if_neg hi, List.getElem?_eq_none (by omega)]
            rw [f _ hz, f _ hz', wipeT_len]
      refine ⟨_, O4, τ4, n2, _, q4, h4, fun b H5 O5 τ5 n5 q5 ⟨e5, h5⟩ => ?_⟩
      have back : ∀ {Γ' : List Gh} {O' : Om} {τ' : ST} {n' : Int} {H' : Hp}, Rel K W Γ' O' [] τ' n' σ4 H' → wipeT τ' vs = wipeT τ1 vs → Rel K W Γ' O' [] (wipeT τ1 vs) n' (wipe σ vs) H' := fun r e => by
        have := r.wipe vs
        rw [e, hw4] at this
        exact this
      cases b with
      | false => exact ⟨O5, n5, ws, acc, back q5 e5, h5⟩
      | true =>
        refine ⟨_, O5, τ5, n5, _, q5, h5, fun y H6 dy O6 τ6 n6 q6 d6 ⟨e6, hl6, h6⟩ => ?_⟩
        obtain ⟨_, hO, hD6, hl⟩ := q6.gh _ List.mem_cons_self
        exact ⟨ws, hD6, BF.sz_lt (by rw [hl.length]; exact hl6), O6, n6, ws ++ [y], acc ++ [dy], (back q6 e6).grow noA d6, h6⟩
  · rintro H2 ⟨O2, n2, ws, acc, q2, h2⟩
    obtain ⟨O', r, h3, h4, h5, h6⟩ := q2.finish (fun j us es z => noA j us es (List.mem_append_right _ (List.mem_append_right _ z))) hno q1.len fun i _ s hs => by
      obtain ⟨v, hv, _⟩ := q1.slot i s hs
      exact ⟨v, hv⟩
    exact k D ws H2 acc O' τ1 n2 r h3 h4 h5 h6 (hId _ _ h2)
theorem liftOL {σ : L2.St} {H : Hp} {Q : VK} (h : liftE K W (wOL wo) σ H Q) : liftO K W wo σ H Q := by
  obtain ⟨Γ, O, τ, n, Q', q, hw, k⟩ := h
  refine ⟨Γ, O, τ, n, _, q, hw, fun a vs H1 ds O1 τ1 n1 q1 h1 h2 h3 h4 hq => ?_⟩
  have s : ∀ y ∈ ad O1 ++ W.M0, y ∈ [a] ++ ad O1 ++ W.M0 := fun y hy => List.mem_cons_of_mem _ hy
  exact k _ H1 _ O1 τ1 n1 ⟨q1.len, q1.few, fun i s' hs => by
    obtain ⟨v, hv, z⟩ := q1.slot i s' hs
    exact ⟨v, hv, z.sub s fun _ h => h⟩, fun g hg => (q1.gh g hg).sub s fun _ _ _ h => h, q1.nd, q1.own, q1.ext, q1.bag, q1.bag0, q1.tab, q1.al, q1.al0, q1.mdb⟩ (.lst (LsM.of h1 h2) (DatL.sub s h4)) hq
/-- a new list, as data -/
theorem ve_ofO (h : PE X e (liftO K W wo)) : PE X e (liftE K W (wOL wo)) := BF.PE.imp h fun _ _ _ q => liftOL q
theorem PTs.imp {es : List Expr} {t t' : L2.TT} (h : PTs X es t) (i : ∀ σ H Q, t' σ H Q → t σ H Q) : PTs X es t' := ⟨fun pins s σ H Q I q => h.run pins s σ H Q I (i σ H Q q)⟩
theorem vts_nil : PTs X [] (liftT K W wYes) := PTs.imp pts_nil fun σ H Q ⟨Γ, O, τ, n, Q', q, hw, k⟩ => k true H O τ n q hw
theorem vts_one {c : Expr} (h : PT X c (liftT K W t)) : PTs X [c] (liftT K W t) := pts_one h
theorem vo_lc (h : PE X e (tLc (liftI K W wi) (liftG K W S g) (liftT K W t) (liftE K W we) vs)) (hS : ∀ i ∈ S, i ∈ vs := by decide) : PE X e (liftO K W (wLc wi g t we vs)) := BF.PE.imp h fun _ _ _ q => liftLc hS q
theorem vs_setLcO {st : Stmt} {i : Nat} (h : PS X st (tAsg (tLc (liftI K W wi) (liftG K W S g) (liftT K W t) (liftE K W we) vs) (gName i))) (hS : ∀ i ∈ S, i ∈ vs := by decide) (i6 : i < 1000000 := by decide) : PS X st (liftS K W (wSetO i (wLc wi g t we vs))) :=
  vs_setO (BF.PS.imp' h fun D σ H q => liftLc hS q) i6
theorem vs_setLc {st : Stmt} {i : Nat} (h : PS X st (tAsg (tLc (liftI K W wi) (liftG K W S g) (liftT K W t) (liftE K W we) vs) (gName i))) (hS : ∀ i ∈ S, i ∈ vs := by decide) (i6 : i < 1000000 := by decide) : PS X st (liftS K W (wSet i (wOL (wLc wi g t we vs)))) :=
  vs_set (BF.PS.imp' h fun D σ H q => liftLc hS (liftOL q)) i6
/-! what a loop walks -/
theorem vi_list (hK : X.K = K) {tg l : Expr} (h : PE X l (liftE K W we)) : PI X tg l (liftI K W (fun τ n Q => we τ n fun d τ1 n1 => ∃ ds, d = .lst ds ∧ Q ds τ1 n1)) := by
  subst hK
  refine PI.imp (pi_list h) fun σ H R ⟨Γ, O, τ, n, Q', q, hw, k⟩ => ?_
  refine ⟨Γ, O, τ, n, _, q, hw, fun v H1 d O1 τ1 n1 q1 d1 ⟨ds, ed, hq⟩ => ?_⟩
  subst ed
  cases d1 with
  | @lst a vs _ h1 h2 =>
    refine ⟨a, rfl, ⟨vs, SqL.of h1.1⟩, k _ H1 [.l a vs ds] ds O1 τ1 n1 (q1.gcons ⟨h1, h2⟩) ⟨_, _, by rw [← h2.length]; exact walk_list, fun O M H g => SqL.of (g _ List.mem_cons_self).1.1, fun O M H i x H' g _ hi y => ?_⟩ hq⟩
    obtain ⟨rfl, y2⟩ := y
    exact ⟨BF.Ex.refl _, (g _ List.mem_cons_self).2.get y2⟩
theorem vi_tup (hK : X.K = K) {tg l : Expr} (h : PE X l (liftE K W we)) : PI X tg l (liftI K W (fun τ n Q => we τ n fun d τ1 n1 => ∃ ds, d = .tup ds ∧ Q ds τ1 n1)) := by
  subst hK
  refine PI.imp (pi_tup h) fun σ H R ⟨Γ, O, τ, n, Q', q, hw, k⟩ => ?_
  refine ⟨Γ, O, τ, n, _, q, hw, fun v H1 d O1 τ1 n1 q1 d1 ⟨ds, ed, hq⟩ => ?_⟩
  subst ed
  cases d1 with
  | @tup a vs _ h1 h2 =>
    refine ⟨a, rfl, ⟨vs, h1.1⟩, k _ H1 [.t a vs ds] ds O1 τ1 n1 (q1.gcons ⟨h1, h2⟩) ⟨_, _, by rw [← h2.length]; exact walk_tup, fun O M H g => (g _ List.mem_cons_self).1.1, fun O M H i x H' g _ hi y => ?_⟩ hq⟩
    obtain ⟨rfl, y2⟩ := y
    exact ⟨BF.Ex.refl _, (g _ List.mem_cons_self).2.get y2⟩
def rngD (lo : Int) (k : Nat) : List DV := (List.range k).map fun (i : Nat) => DV.int (lo + (i : Int))
theorem rngD_len {lo : Int} {k : Nat} : (rngD lo k).length = k := by simp [rngD]
theorem rng_wkd {b : Addr} {lo : Int} {k : Nat} : Wkd K b (Itr lo k) [] (rngD lo k) := ⟨_, _, by rw [rngD_len]; exact walk_range, fun _ _ _ _ => trivial, fun O M H i x H' _ _ hi y => by
  obtain ⟨rfl, rfl⟩ := y
  rw [rngD_len] at hi
  exact ⟨BF.Ex.refl _, _, by simp [rngD, hi], .int _⟩⟩
def wRng1 (wr : WA) : WA := fun τ n Q => wr τ n fun ds τ1 n1 => ∃ j, ds = [.int j] ∧ -1000000000000 ≤ j ∧ j ≤ 1000000000000 ∧ Q (rngD 0 j.toNat) τ1 n1
def wRng2 (wr : WA) : WA := fun τ n Q => wr τ n fun ds τ1 n1 => ∃ i j, ds = [.int i, .int j] ∧ -1000000000000 ≤ i ∧ i ≤ 1000000000000 ∧ -1000000000000 ≤ j ∧ j ≤ 1000000000000 ∧ Q (rngD i (j - i).toNat) τ1 n1
variable {wr : WA} {es : List Expr} {tg : Expr}
theorem vi_rng1 (h : PI X tg e (iRng1 (liftA K W wr))) : PI X tg e (liftI K W (wRng1 wr)) := PI.imp h fun σ H R ⟨Γ, O, τ, n, Q', q, hw, k⟩ => ⟨Γ, O, τ, n, _, q, hw, fun vs H1 ds O1 τ1 n1 q1 d1 ⟨j, ed, l1, l2, hq⟩ => by
  subst ed
  cases d1 with
  | cons h1 h2 =>
    cases h1
    cases h2
    exact ⟨j, rfl, by omega, by omega, k _ H1 [] _ O1 τ1 n1 q1 rng_wkd hq⟩⟩
theorem vi_rng2 (h : PI X tg e (iRng2 (liftA K W wr))) : PI X tg e (liftI K W (wRng2 wr)) := PI.imp h fun σ H R ⟨Γ, O, τ, n, Q', q, hw, k⟩ => ⟨Γ, O, τ, n, _, q, hw, fun vs H1 ds O1 τ1 n1 q1 d1 ⟨i, j, ed, l1, l2, l3, l4, hq⟩ => by
  subst ed
  cases d1 with
  | cons h1 h2 =>
    cases h1
    cases h2 with
    | cons h1 h2 =>
      cases h1
      cases h2
      exact ⟨i, j, rfl, ⟨by omega, by omega, by omega, by omega⟩, k _ H1 [] _ O1 τ1 n1 q1 rng_wkd hq⟩⟩
/-- pairs -/
def zipD (xs ys : List DV) : List DV := List.zipWith (fun x y => .tup [x, y]) xs ys
theorem zipD_len {xs ys : List DV} : (zipD xs ys).length = min xs.length ys.length := by simp [zipD]
theorem pair_dat {b : Addr} {M : List Addr} {H H' : Hp} {T : Addr} {x y : V} {d e : DV} (ha : AlN M H) (hT : H T = none) (hH : H' = upd H T (.tup [x, y])) (hx : Dat K b M H x d) (hy : Dat K b M H y e) : BF.Ex [] H H' ∧ Dat K b M H' (.ref T) (.tup [d, e]) := by
  subst hH
  have ex : BF.Ex [] H (upd H T (.tup [x, y])) := BF.Ex.new hT
  exact ⟨ex, .tup (TsM.of upd_same (ha.out hT)) (.cons (Dat.ey (Ey.ex0 ex) hx) (.cons (Dat.ey (Ey.ex0 ex) hy) .nil))⟩
def wZip (wr : WA) : WA := fun τ n Q => wr τ n fun ds τ1 n1 => ∃ xs ys, (ds = [.lst xs, .lst ys] ∨ ds = [.tup xs, .tup ys]) ∧ Q (zipD xs ys) τ1 n1
theorem vi_zip (h : PI X tg e (RZ.iZipA K (liftA K W wr))) : PI X tg e (liftI K W (wZip wr)) := PI.imp h fun σ H R ⟨Γ, O, τ, n, Q', q, hw, k⟩ => ⟨Γ, O, τ, n, _, q, hw, fun vs H1 ds O1 τ1 n1 q1 d1 ⟨xs, ys, ed, hq⟩ => by
  rcases ed with ed | ed
  · subst ed
    cases d1 with
    | cons h1 h2 =>
      cases h2 with
      | cons h2 h3 =>
        cases h3
        cases h1 with
        | @lst a us _ a1 a2 =>
          cases h2 with
          | @lst c ws _ b1 b2 =>
            refine ⟨a, c, us, ws, rfl, .inl ⟨SqL.of a1.1, SqL.of b1.1, k _ H1 [.l a us xs, .l c ws ys] _ O1 τ1 n1 ((q1.gcons (g := .l c ws ys) ⟨b1, b2⟩).gcons ⟨a1, a2⟩) ⟨_, _, walk_zip (by rw [zipD_len, a2.length, b2.length]), fun O M H g => ⟨SqL.of (g (.l a us xs) (by simp)).1.1, SqL.of (g (.l c ws ys) (by simp)).1.1⟩, fun O M H i x H' g al hi y => ?_⟩ hq⟩⟩
            obtain ⟨T, x, z, rfl, y2, y3, y4, y5⟩ := y
            obtain ⟨d, e1, e2⟩ := (g (.l a us xs) (by simp)).2.get y4
            obtain ⟨f, f1, f2⟩ := (g (.l c ws ys) (by simp)).2.get y5
            obtain ⟨p1, p2⟩ := pair_dat al y2 y3 e2 f2
            exact ⟨p1, _, by simp [zipD, List.getElem?_zipWith, e1, f1], p2⟩
  · subst ed
    cases d1 with
    | cons h1 h2 =>
      cases h2 with
      | cons h2 h3 =>
        cases h3
        cases h1 with
        | @tup a us _ a1 a2 =>
          cases h2 with
          | @tup c ws _ b1 b2 =>
            refine ⟨a, c, us, ws, rfl, .inr ⟨a1.1, b1.1, k _ H1 [.t a us xs, .t c ws ys] _ O1 τ1 n1 ((q1.gcons (g := .t c ws ys) ⟨b1, b2⟩).gcons ⟨a1, a2⟩) ⟨_, _, BF.walk_zipT (by rw [zipD_len, a2.length, b2.length]), fun O M H g => ⟨(g (.t a us xs) (by simp)).1.1, (g (.t c ws ys) (by simp)).1.1⟩, fun O M H i x H' g al hi y => ?_⟩ hq⟩⟩
            obtain ⟨T, x, z, rfl, y2, y3, y4, y5⟩ := y
            obtain ⟨d, e1, e2⟩ := (g (.t a us xs) (by simp)).2.get y4
            obtain ⟨f, f1, f2⟩ := (g (.t c ws ys) (by simp)).2.get y5
            obtain ⟨p1, p2⟩ := pair_dat al y2 y3 e2 f2
            exact ⟨p1, _, by simp [zipD, List.getElem?_zipWith, e1, f1], p2⟩⟩
/-! a def by its body -/
def startT (N : List Str) (ds : List DV) : ST := ds.map (fun d => some (.d d)) ++ List.replicate (N.length - ds.length) none
theorem start_rel {C : Cf} {M : List Addr} {H : Hp} {n : Int} {vs : List V} {ds : List DV} {N : List Str} (hN : N.length < 1000000) (hl : vs.length ≤ N.length) (hb : C.b ∈ M) (al : AlN M H) (bag : C.B H n) (tab : LamX.Tabs C.T H) (hd : DatL K C.b M H vs ds) (E' : XV) (E : XK) :
    Rel K ⟨C, [C.b], M, H, hb, List.mem_singleton.mpr rfl, E', E⟩ [] [] [] (startT N ds) n (L2.start N vs) H := by
  have e := hd.length
  refine ⟨by simp [startT, L2.start, e], by simp [startT]; omega, fun i s hs => ?_, nofun, List.nodup_nil, nofun, Ey.refl H, bag, ⟨n, bag⟩, tab, al, al, fun x hx => .inl (List.mem_singleton.mp hx)⟩
  unfold startT at hs
  by_cases hi : i < ds.length
  · rw [List.getElem?_append_left (by simpa using hi), List.getElem?_map] at hs
    obtain ⟨d, hd', e'⟩ := Option.map_eq_some_iff.mp hs
    cases e'
    obtain ⟨v, hv, k⟩ := hd.at hd'
    refine ⟨v, ?_, k⟩
    unfold L2.start
    rw [List.getElem?_append_left (by simpa [e] using hi), List.getElem?_map, hv]
    rfl
  · rw [List.getElem?_append_right (by simpa using hi), List.getElem?_replicate] at hs
    split at hs <;> cases hs
/-- THE RULE: a def's promise by data, from its body's reading -/
theorem v_body {Cs : Cf → Prop} {sp : DSp} {N ps : List Str} {vs : List V} {H : Hp} {Q : VK} {E : XK} (hN : N.length < 1000000) (hp : ps.length ≤ N.length) (hlen : ∀ ds n Q E, sp ds n Q E → ds.length = ps.length) (h : liftSp K Cs sp vs H Q E) :
    ∃ (W : Wc) (ds : List DV) (n : Int) (Q' : DV → Int → Prop), Cs W.toCf ∧ W.E = E ∧ ELink K W ∧ sp ds n Q' W.E' ∧ vs.length = ps.length ∧
      ∀ w : WS, w { nx := fun _ n => Q' .non n, rt := Q' } (startT N ds) n → liftS K W w { nx := fun _ H' => Q .non H', rt := Q } (L2.start N vs) H := by
  obtain ⟨C, M, n, ds, Q', E', hC, hb, al, bag, tab, hd, hsp, hQ, hE⟩ := h
  have hl := hlen _ _ _ _ hsp
  have hv : vs.length = ps.length := by rw [hd.length]; exact hl
  refine ⟨⟨C, [C.b], M, H, hb, List.mem_singleton.mpr rfl, E', E⟩, ds, n, Q', hC, rfl, fun c ns ws es dd H' n' ey al' bag' tab' h1 h2 h3 h4 => hE c ns ws es dd H' n' ⟨ey, al', bag', tab'⟩ h1 h2 h3 h4, hsp, hv, fun w hw => ?_⟩
  refine ⟨[], [], _, n, _, start_rel hN (by omega) hb al bag tab hd E' E, hw, ?_, ?_, ?_, ?_⟩
  · intro σ' H' τ' n' O' q hq
    exact hQ .non H' .non n' ⟨q.ext, fun x hx => q.al x (List.mem_append_right _ hx), q.bag, q.tab⟩ .non hq
  · intro _ _ _ _ _ _ h
    exact h.elim
  · intro _ _ _ _ _ _ h
    exact h.elim
  · intro v H' d n' r hq
    exact hQ v H' d n' ⟨r.ey, r.al, r.bag, r.tab⟩ r.dat hq
theorem v_ok {P : Program} {w : World} {mg : Str → Option Value} {base : Heap} {Cs : Cf → Prop} {sp : DSp} {x qual : Str} {params : Arguments} {body : List Stmt} {scope : Scope} {dvs : List V} {kws : List (Str × V)} {f : Addr} {fd : FuncData} {N ps : List Str} {k : Nat}
    (F : FunD K x qual params body scope dvs kws f fd) (S : FnScope N ps scope) (hN : N.length < 1000000) (hp : ps.length ≤ N.length) (hlen : ∀ ds n Q E, sp ds n Q E → ds.length = ps.length)
    (hbody : ∀ (cdv : Value) (A : Around) (outer : List Env) (s : Shared) (H : Hp) (W : Wc) (ds : List DV) (n : Int) (Q' : DV → Int → Prop), Cs W.toCf → ELink K W → Room k (A.deeper (envOfC qual scope s.heap.objs.size f cdv)) → sp ds n Q' W.E' →
      ∃ wd, PSs (cxOf (L2.CX P w) P w K mg base N qual scope f cdv A outer s H W.E) body (liftS K W wd) ∧ wd { nx := fun _ n => Q' .non n, rt := Q' } (startT N ds) n) : FnOk P w K mg base (L2.CX P w) (k + 1) f fd ps (liftSp K Cs sp) := by
  refine F.ok S (fun vs H Q E h => ?_) (fun cdv A outer s H vs Q E hr h => ?_)
  · obtain ⟨W, ds, n, Q', hC, hWE, hE, hsp, hl, fin⟩ := v_body hN hp hlen h
    exact hl
  · obtain ⟨W, ds, n, Q', hC, hWE, hE, hsp, hl, fin⟩ := v_body hN hp hlen h
    subst hWE
    obtain ⟨wd, h1, h2⟩ := hbody cdv A outer s H W ds n Q' hC hE hr hsp
    exact ⟨_, h1, fin wd h2⟩
end
end VF
/-! ## Operations on data -/
namespace VF
open PySem PySem.Spec PyProof.Rows L2
abbrev DP := DV → Prop
def wI (C : Int → Int → Prop) (g : Int → Int → Int) : DV → DV → DP → Prop
  | .int i, .int j, Q => C i j ∧ Q (.int (g i j))
  | _, _, _ => False
def wI0 (g : Int → Int → Int) : DV → DV → DP → Prop
  | .int i, .int j, Q => Q (.int (g i j))
  | _, _, _ => False
def wIB (g : Int → Int → Bool) : DV → DV → DP → Prop
  | .int i, .int j, Q => Q (.bl (g i j))
  | _, _, _ => False
abbrev wSub := wI0 fun i j => i - j
abbrev wMul := wI CMulW fun i j => i * j
abbrev wMod := wI (fun _ j => 0 < j) fun i j => i % j
abbrev wDiv := wI CDivW fun i j => i / j
abbrev wPow := wI CPow fun i j => i ^ j.toNat
abbrev wLt := wIB fun i j => decide (i < j)
abbrev wLe := wIB fun i j => decide (i ≤ j)
abbrev wGt := wIB fun i j => decide (j < i)
abbrev wGe := wIB fun i j => decide (j ≤ i)
def wAdd : DV → DV → DP → Prop
  | .int i, .int j, Q => Q (.int (i + j))
  | .lst xs, .lst ys, Q => xs.length + ys.length ≤ 1000000 ∧ Q (.lst (xs ++ ys))
  | .tup xs, .tup ys, Q => xs.length + ys.length ≤ 1000000 ∧ Q (.tup (xs ++ ys))
  | .str x, .str y, Q => x.length + y.length ≤ 1000000 ∧ Q (.str (x ++ y))
  | _, _, _ => False
def wNeg : DV → DP → Prop
  | .int i, Q => Q (.int (-i))
  | _, _ => False
/-- list or tuple at an index -/
def wIx : DV → DV → DP → Prop
  | .lst xs, .int i, Q => ∃ x, atI xs i = some x ∧ Q x
  | .tup xs, .int i, Q => ∃ x, atI xs i = some x ∧ Q x
  | _, _, _ => False
def cutD (xs : List DV) (lo hi : Option Int) : List DV := (xs.drop (HT.sIx xs.length 0 lo)).take (HT.sIx xs.length xs.length hi - HT.sIx xs.length 0 lo)
def wSlice : DV → Option Int → Option Int → DP → Prop
  | .lst xs, l, u, Q => Q (.lst (cutD xs l u))
  | .tup xs, l, u, Q => Q (.tup (cutD xs l u))
  | _, _, _, _ => False
def wLen : List DV → DP → Prop
  | [.lst xs], Q => Q (.int (xs.length : Int))
  | [.tup xs], Q => Q (.int (xs.length : Int))
  | [.str x], Q => x.length ≤ 1000000 ∧ Q (.int (x.length : Int))
  | _, _ => False
def wList : List DV → DP → Prop
  | [.lst xs], Q => Q (.lst xs)
  | [.tup xs], Q => Q (.lst xs)
  | _, _ => False
def wTuple : List DV → DP → Prop
  | [.lst xs], Q => Q (.tup xs)
  | [.tup xs], Q => Q (.tup xs)
  | _, _ => False
def wInt : List DV → DP → Prop
  | [.int i], Q => Q (.int i)
  | [.bl b], Q => Q (.int (if b then 1 else 0))
  | _, _ => False
def wAbs : List DV → DP → Prop
  | [.int i], Q => Q (.int (i.natAbs : Int))
  | _, _ => False
def wMax2 : List DV → DP → Prop
  | [.int i, .int j], Q => Q (.int (max i j))
  | _, _ => False
def wMin2 : List DV → DP → Prop
  | [.int i, .int j], Q => Q (.int (min i j))
  | _, _ => False
/-- lists of bools -/
def asBl : List DV → Option (List Bool)
  | [] => some []
  | .bl b :: r => (asBl r).map (b :: ·)
  | _ :: _ => none
def wAll : List DV → DP → Prop
  | [.lst xs], Q => ∃ bs, asBl xs = some bs ∧ Q (.bl (bs.all id))
  | _, _ => False
def wAny : List DV → DP → Prop
  | [.lst xs], Q => ∃ bs, asBl xs = some bs ∧ Q (.bl (bs.any id))
  | _, _ => False
mutual
def toPy : DV → Option PyData
  | .non => some .none
  | .bl b => some (.bool b)
  | .int i => some (.int i)
  | .str x => some (.str x)
  | .lst ds => (toPyL ds).map .list
  | .tup ds => (toPyL ds).map .tuple
  | _ => none
def toPyL : List DV → Option (List PyData)
  | [] => some []
  | d :: ds => match toPy d, toPyL ds with
    | some x, some xs => some (x :: xs)
    | _, _ => none
end
/-- a scalar -/
def DV.sc : DV → Option V
  | .non => some .non
  | .bl b => some (.bl b)
  | .int i => some (.int i)
  | .str x => some (.str x)
  | _ => none
def wEqS (neg : Bool) : DV → DV → DP → Prop
  | .int i, .int j, Q => Q (.bl (if neg then !decide (i = j) else decide (i = j)))
  | .str i, .str j, Q => Q (.bl (if neg then !decide (i = j) else decide (i = j)))
  | .bl i, .bl j, Q => Q (.bl (if neg then !(i == j) else (i == j)))
  | _, _, _ => False
def wEqD (neg : Bool) : DV → DV → DP → Prop := fun d e Q => ∃ x y, toPy d = some x ∧ toPy e = some y ∧ SeqAt.shaped x = true ∧ SeqAt.shaped y = true ∧ Q (.bl (if neg then !PyData.eqv x y else PyData.eqv x y))
/-- of ints, texts, bools; else through and through -/
def wEq (neg : Bool) : DV → DV → DP → Prop := fun d e Q => wEqS neg d e Q ∨ wEqD neg d e Q
def wIsN (neg : Bool) : DV → DV → DP → Prop
  | .non, .non, Q => Q (.bl (!neg))
  | .bl _, .non, Q => Q (.bl neg)
  | .int _, .non, Q => Q (.bl neg)
  | .str _, .non, Q => Q (.bl neg)
  | .lst _, .non, Q => Q (.bl neg)
  | .tup _, .non, Q => Q (.bl neg)
  | .ins _ _ _, .non, Q => Q (.bl neg)
  | .exc _ _ _, .non, Q => Q (.bl neg)
  | _, _, _ => False
def rAddD (K : PySem.W.Frag) : R2 := fun x y H Q => rI0 (fun i j => .int (i + j)) x y H Q ∨ rCat x y H Q ∨ rCatA K x y H Q ∨ ∃ i j, x = .str i ∧ y = .str j ∧ i.length + j.length ≤ sizeLine ∧ Q (.str (i ++ j)) H
section
variable {X : Cx}
theorem op_addD (K : PySem.W.Frag) (h : X.K = K := by rfl) : OpR X (binaryOp .Add) (rAddD K) := h ▸ op_add.or (op_cat.or (op_catA.or op_add_str))
theorem op_eqU (K : PySem.W.Frag) (hu : X.A.units + 64 < cLine) (h : X.K = K := by rfl) : OpR X (compareOp .Eq) (fun x y H Q => rEq x y H Q ∨ rEqD K x y H Q) := h ▸ op_eq.or (op_eqD hu)
theorem op_neU (K : PySem.W.Frag) (hu : X.A.units + 64 < cLine) (h : X.K = K := by rfl) : OpR X (compareOp .NotEq) (fun x y H Q => rNe x y H Q ∨ rNeD K x y H Q) := h ▸ op_ne.or (op_neD hu)
def rSlU (K : PySem.W.Frag) : V → Option Int → Option Int → Hp → VK → Prop := fun x l u H Q => rSlL K x l u H Q ∨ rSlA K x l u H Q
theorem sl_U (K : PySem.W.Frag) (h : X.K = K := by rfl) : SlR X (rSlU K) := h ▸ sl_list.or sl_tupA
theorem call_lenK (K : PySem.W.Frag) (h : X.K = K := by rfl) : CallR X (.builtin "len") (fun xs H Q => ∃ x n, xs = [x] ∧ LenV K x H n ∧ Q (.int n) H) := h ▸ call_len
end
section
variable {K : PySem.W.Frag}
theorem d_I {C : Int → Int → Prop} {g : Int → Int → Int} : DOp K (rI C fun i j => .int (g i j)) (wI C g) := fun b M H x y d e Q' Q al hx hy hw k => by
  cases hx <;> cases hy <;> first | exact hw.elim | exact ⟨_, _, rfl, rfl, hw.1, k _ _ _ (BF.Ex.refl H) (.int _) hw.2⟩
theorem d_I0 {g : Int → Int → Int} : DOp K (rI0 fun i j => .int (g i j)) (wI0 g) := fun b M H x y d e Q' Q al hx hy hw k => by
  cases hx <;> cases hy <;> first | exact hw.elim | exact ⟨_, _, rfl, rfl, k _ _ _ (BF.Ex.refl H) (.int _) hw⟩
theorem d_IB {g : Int → Int → Bool} : DOp K (rI0 fun i j => .bl (g i j)) (wIB g) := fun b M H x y d e Q' Q al hx hy hw k => by
  cases hx <;> cases hy <;> first | exact hw.elim | exact ⟨_, _, rfl, rfl, k _ _ _ (BF.Ex.refl H) (.bl _) hw⟩
theorem d_neg : DUn K (rU fun i => .int (-i)) wNeg := fun b M H x d Q' Q al hx hw k => by
  cases hx <;> first | exact hw.elim | exact ⟨_, rfl, k _ _ _ (BF.Ex.refl H) (.int _) hw⟩
theorem new_lst {b p : Addr} {M : List Addr} {H : Hp} {vs : List V} {ds : List DV} (al : AlN M H) (hp : H p = none) (h : DatL K b M H vs ds) : BF.Ex [] H (upd H p (.lst vs)) ∧ Dat K b M (upd H p (.lst vs)) (.ref p) (.lst ds) := by
  have e : BF.Ex [] H (upd H p (.lst vs)) := BF.Ex.new hp
  exact ⟨e, .lst (LsM.of upd_same (al.out hp)) (DatL.ey (Ey.ex0 e) h)⟩
theorem new_tup {b p : Addr} {M : List Addr} {H : Hp} {vs : List V} {ds : List DV} (al : AlN M H) (hp : H p = none) (h : DatL K b M H vs ds) : BF.Ex [] H (upd H p (.tup vs)) ∧ Dat K b M (upd H p (.tup vs)) (.ref p) (.tup ds) := by
  have e : BF.Ex [] H (upd H p (.tup vs)) := BF.Ex.new hp
  exact ⟨e, .tup (TsM.of upd_same (al.out hp)) (DatL.ey (Ey.ex0 e) h)⟩
theorem d_add : DOp K (rAddD K) wAdd := fun b M H x y d e Q' Q al hx hy hw k => by
  cases hx with
  | int i => cases hy <;> first | exact hw.elim | exact .inl ⟨_, _, rfl, rfl, k _ _ _ (BF.Ex.refl H) (.int _) hw⟩
  | str i => cases hy <;> first | exact hw.elim | exact .inr (.inr (.inr ⟨_, _, rfl, rfl, BF.sz_of hw.1, k _ _ _ (BF.Ex.refl H) (.str _) hw.2⟩))
  | lst h1 h2 =>
    cases hy with
    | lst k1 k2 => exact .inr (.inl ⟨_, _, _, _, rfl, rfl, h1.1, k1.1, by rw [h2.length, k2.length]; exact BF.sz_of hw.1, fun p hp => k _ _ _ (new_lst al hp (DatL.app h2 k2)).1 (new_lst al hp (DatL.app h2 k2)).2 hw.2⟩)
    | _ => exact hw.elim
  | tup h1 h2 =>
    cases hy with
    | tup k1 k2 =>
      refine .inr (.inr (.inl ⟨_, _, _, _, rfl, rfl, h1.1, k1.1, by rw [h2.length, k2.length]; exact BF.sz_of hw.1, fun z => ?_, fun _ z => ?_, fun _ _ p hp => k _ _ _ (new_tup al hp (DatL.app h2 k2)).1 (new_tup al hp (DatL.app h2 k2)).2 hw.2⟩))
      · subst z
        cases h2
        exact k _ _ _ (BF.Ex.refl H) (.tup k1 k2) hw.2
      · subst z
        cases k2
        have := hw.2
        rw [List.append_nil] at this
        exact k _ _ _ (BF.Ex.refl H) (.tup h1 h2) this
    | _ => exact hw.elim
  | _ => exact hw.elim
theorem atI_dat {b : Addr} {M : List Addr} {H : Hp} {vs : List V} {ds : List DV} {i : Int} {d : DV} (h : DatL K b M H vs ds) (e : atI ds i = some d) : ∃ v, atI vs i = some v ∧ Dat K b M H v d := by
  unfold atI at e ⊢
  rw [h.length]
  cases q : ixN ds.length i with
  | none => rw [q] at e; cases e
  | some j =>
    rw [q] at e
    exact h.at e
theorem d_ix : DOp K (BF.rIxLT K) wIx := fun b M H x y d e Q' Q al hx hy hw k => by
  cases hx with
  | lst h1 h2 =>
    cases hy <;> first | exact hw.elim | (obtain ⟨z, hz, q⟩ := hw; obtain ⟨v, hv, dv⟩ := atI_dat h2 hz; exact .inl ⟨_, _, _, v, rfl, rfl, SqL.of h1.1, hv, k _ _ _ (BF.Ex.refl H) dv q⟩)
  | tup h1 h2 =>
    cases hy <;> first | exact hw.elim | (obtain ⟨z, hz, q⟩ := hw; obtain ⟨v, hv, dv⟩ := atI_dat h2 hz; exact .inr ⟨_, _, _, v, rfl, rfl, h1.1, hv, k _ _ _ (BF.Ex.refl H) dv q⟩)
  | _ => exact hw.elim
theorem cut_dat {b : Addr} {M : List Addr} {H : Hp} {vs : List V} {ds : List DV} {l u : Option Int} (h : DatL K b M H vs ds) : DatL K b M H (cutV vs l u) (cutD ds l u) := by
  unfold cutV cutD
  rw [h.length]
  exact DatL.take _ (DatL.drop _ h)
theorem d_sl : DSl K (rSlU K) wSlice := fun b M H x d l u Q' Q al hx hw k => by
  cases hx with
  | lst h1 h2 => exact .inl ⟨_, _, rfl, SqL.of h1.1, fun p hp => k _ _ _ (new_lst al hp (cut_dat h2)).1 (new_lst al hp (cut_dat h2)).2 hw⟩
  | @tup a vs ds h1 h2 =>
    refine .inr ⟨_, _, rfl, h1.1, fun z => ?_, fun _ p hp => k _ _ _ (new_tup al hp (cut_dat h2)).1 (new_tup al hp (cut_dat h2)).2 hw⟩
    have e : cutD ds l u = ds := by
      unfold cutD
      rw [h2.length] at z
      rw [z.1, z.2, List.drop_zero, Nat.sub_zero, List.take_length]
    have hw : Q' (.tup (cutD ds l u)) := hw
    rw [e] at hw
    exact k _ _ _ (BF.Ex.refl H) (.tup h1 h2) hw
  | _ => exact hw.elim
theorem d_len : DCall K (fun xs H Q => ∃ x n, xs = [x] ∧ LenV K x H n ∧ Q (.int n) H) wLen := fun b M H xs ds Q' Q al hx hw k => by
  cases hx with
  | nil => exact hw.elim
  | cons h t =>
    cases t with
    | cons _ _ => cases h <;> exact hw.elim
    | nil =>
      cases h with
      | lst h1 h2 => exact ⟨_, _, rfl, .inl ⟨_, SqL.of h1.1, h2.length.symm⟩, k _ _ _ (BF.Ex.refl H) (.int _) hw⟩
      | tup h1 h2 => exact ⟨_, _, rfl, .inr ⟨_, h1.1, h2.length.symm⟩, k _ _ _ (BF.Ex.refl H) (.int _) hw⟩
      | str x => exact ⟨_, _, rfl, ⟨BF.sz_of hw.1, rfl⟩, k _ _ _ (BF.Ex.refl H) (.int _) hw.2⟩
      | _ => exact hw.elim
theorem d_list : DCall K (BF.rListLT K) wList := fun b M H xs ds Q' Q al hx hw k => by
  cases hx with
  | nil => exact hw.elim
  | cons h t =>
    cases t with
    | cons _ _ => cases h <;> exact hw.elim
    | nil =>
      cases h with
      | lst h1 h2 => exact ⟨_, _, rfl, .inl (SqL.of h1.1), fun p hp => k _ _ _ (new_lst al hp h2).1 (new_lst al hp h2).2 hw⟩
      | tup h1 h2 => exact ⟨_, _, rfl, .inr h1.1, fun p hp => k _ _ _ (new_lst al hp h2).1 (new_lst al hp h2).2 hw⟩
      | _ => exact hw.elim
theorem d_tuple : DCall K (BF.rTupLT K) wTuple := fun b M H xs ds Q' Q al hx hw k => by
  cases hx with
  | nil => exact hw.elim
  | cons h t =>
    cases t with
    | cons _ _ => cases h <;> exact hw.elim
    | nil =>
      cases h with
      | lst h1 h2 => exact ⟨_, _, rfl, .inl ⟨SqL.of h1.1, fun p hp => k _ _ _ (new_tup al hp h2).1 (new_tup al hp h2).2 hw⟩⟩
      | tup h1 h2 => exact ⟨_, _, rfl, .inr ⟨h1.1, k _ _ _ (BF.Ex.refl H) (.tup h1 h2) hw⟩⟩
      | _ => exact hw.elim
theorem d_int : DCall K BF.rInt1 wInt := fun b M H xs ds Q' Q al hx hw k => by
  cases hx with
  | nil => exact hw.elim
  | cons h t =>
    cases t with
    | cons _ _ => cases h <;> exact hw.elim
    | nil => cases h <;> first | exact hw.elim | exact .inl ⟨_, rfl, k _ _ _ (BF.Ex.refl H) (.int _) hw⟩ | exact .inr ⟨_, rfl, k _ _ _ (BF.Ex.refl H) (.int _) hw⟩
theorem d_abs : DCall K BF.rAbs wAbs := fun b M H xs ds Q' Q al hx hw k => by
  cases hx with
  | nil => exact hw.elim
  | cons h t =>
    cases t with
    | cons _ _ => cases h <;> exact hw.elim
    | nil => cases h <;> first | exact hw.elim | exact BF.x_abs (k _ _ _ (BF.Ex.refl H) (.int _) hw)
theorem d_max2 : DCall K (fun xs H Q => ∃ i j, xs = [.int i, .int j] ∧ Q (.int (if j > i then j else i)) H) wMax2 := fun b M H xs ds Q' Q al hx hw k => by
  cases hx with
  | nil => exact hw.elim
  | cons h t =>
    cases t with
    | nil => cases h <;> exact hw.elim
    | cons h' t =>
      cases t with
      | cons _ _ => cases h <;> cases h' <;> exact hw.elim
      | nil =>
        cases h with
        | int i =>
          cases h' with
          | int j =>
            refine ⟨i, j, rfl, ?_⟩
            rw [show (if j > i then j else i) = max i j by split <;> omega]
            exact k _ _ _ (BF.Ex.refl H) (.int _) hw
          | _ => exact hw.elim
        | _ => cases h' <;> exact hw.elim
theorem d_min2 : DCall K (fun xs H Q => ∃ i j, xs = [.int i, .int j] ∧ Q (.int (if j < i then j else i)) H) wMin2 := fun b M H xs ds Q' Q al hx hw k => by
  cases hx with
  | nil => exact hw.elim
  | cons h t =>
    cases t with
    | nil => cases h <;> exact hw.elim
    | cons h' t =>
      cases t with
      | cons _ _ => cases h <;> cases h' <;> exact hw.elim
      | nil =>
        cases h with
        | int i =>
          cases h' with
          | int j =>
            refine ⟨i, j, rfl, ?_⟩
            rw [show (if j < i then j else i) = min i j by split <;> omega]
            exact k _ _ _ (BF.Ex.refl H) (.int _) hw
          | _ => exact hw.elim
        | _ => cases h' <;> exact hw.elim
theorem asBl_dat {b : Addr} {M : List Addr} {H : Hp} : ∀ {vs : List V} {ds : List DV} {bs : List Bool}, DatL K b M H vs ds → asBl ds = some bs → vs = bs.map V.bl
  | _, _, _, .nil, e => by cases e; rfl
  | _, _, _, .cons h l, e => by
    cases h <;> first
      | (cases e; done)
      | (simp only [asBl] at e
         obtain ⟨r, hr, e⟩ := Option.map_eq_some_iff.mp e
         subst e
         rw [asBl_dat l hr]
         rfl)
theorem d_all : DCall K (rAll K) wAll := fun b M H xs ds Q' Q al hx hw k => by
  cases hx with
  | nil => exact hw.elim
  | cons h t =>
    cases t with
    | cons _ _ => cases h <;> exact hw.elim
    | nil =>
      cases h with
      | lst h1 h2 =>
        obtain ⟨bs, e, q⟩ := hw
        refine ⟨_, bs, rfl, ?_, k _ _ _ (BF.Ex.refl H) (.bl _) q⟩
        rw [← asBl_dat h2 e]
        exact SqL.of h1.1
      | _ => exact hw.elim
theorem d_any : DCall K (rAny K) wAny := fun b M H xs ds Q' Q al hx hw k => by
  cases hx with
  | nil => exact hw.elim
  | cons h t =>
    cases t with
    | cons _ _ => cases h <;> exact hw.elim
    | nil =>
      cases h with
      | lst h1 h2 =>
        obtain ⟨bs, e, q⟩ := hw
        refine ⟨_, bs, rfl, ?_, k _ _ _ (BF.Ex.refl H) (.bl _) q⟩
        rw [← asBl_dat h2 e]
        exact SqL.of h1.1
      | _ => exact hw.elim
mutual
theorem dp_of {b : Addr} {M : List Addr} {H : Hp} : ∀ {v : V} {d : DV} {x : PyData}, Dat K b M H v d → toPy d = some x → Dp K H v x
  | _, _, _, .non, e => by cases e; exact .non
  | _, _, _, .bl x, e => by cases e; exact .bl x
  | _, _, _, .int i, e => by cases e; exact .int i
  | _, _, _, .str x, e => by cases e; exact .str x
  | _, _, _, .lst h l, e => by
    simp only [toPy] at e
    obtain ⟨xs, hx, e⟩ := Option.map_eq_some_iff.mp e
    subst e
    exact .lst (SqL.of h.1) (dp_ofL l hx)
  | _, _, _, .tup h l, e => by
    simp only [toPy] at e
    obtain ⟨xs, hx, e⟩ := Option.map_eq_some_iff.mp e
    subst e
    exact .tup h.1 (dp_ofL l hx)
  | _, _, _, .tupz _ _ _ _, e => by cases e
  | _, _, _, .ins _ _ _ _, e => by cases e
  | _, _, _, .exc _ _ _ _ _ _, e => by cases e
  | _, _, _, .bag, e => by cases e
  | _, _, _, .ty _, e => by cases e
  | _, _, _, .cls _, e => by cases e
theorem dp_ofL {b : Addr} {M : List Addr} {H : Hp} : ∀ {vs : List V} {ds : List DV} {xs : List PyData}, DatL K b M H vs ds → toPyL ds = some xs → DpAll K H vs xs
  | _, _, _, .nil, e => by cases e; exact .nil
  | _, _, _, .cons (d := d) (ds := ds) h l, e => by
    simp only [toPyL] at e
    cases e1 : toPy d with
    | none => rw [e1] at e; cases e
    | some x =>
      cases e2 : toPyL ds with
      | none => rw [e1, e2] at e; cases e
      | some xs =>
        rw [e1, e2] at e
        cases e
        exact .cons (dp_of h e1) (dp_ofL l e2)
end
theorem d_eq : DOp K (fun x y H Q => rEq x y H Q ∨ rEqD K x y H Q) (wEq false) := fun b M H x y d e Q' Q al hx hy hw k => by
  rcases hw with hw | ⟨p, q, e1, e2, s1, s2, hq⟩
  · left
    cases hx <;> cases hy <;> first
      | exact hw.elim
      | exact BF.x_eqI (k _ _ _ (BF.Ex.refl H) (.bl _) hw)
      | exact BF.x_eqS (k _ _ _ (BF.Ex.refl H) (.bl _) hw)
      | exact BF.x_eqB (k _ _ _ (BF.Ex.refl H) (.bl _) hw)
  · exact .inr ⟨p, q, dp_of hx e1, dp_of hy e2, s1, s2, k _ _ _ (BF.Ex.refl H) (.bl _) hq⟩
theorem d_ne : DOp K (fun x y H Q => rNe x y H Q ∨ rNeD K x y H Q) (wEq true) := fun b M H x y d e Q' Q al hx hy hw k => by
  rcases hw with hw | ⟨p, q, e1, e2, s1, s2, hq⟩
  · left
    cases hx <;> cases hy <;> first
      | exact hw.elim
      | exact BF.x_neI (k _ _ _ (BF.Ex.refl H) (.bl _) hw)
      | exact BF.x_neS (k _ _ _ (BF.Ex.refl H) (.bl _) hw)
      | exact BF.x_neB (k _ _ _ (BF.Ex.refl H) (.bl _) hw)
  · exact .inr ⟨p, q, dp_of hx e1, dp_of hy e2, s1, s2, k _ _ _ (BF.Ex.refl H) (.bl _) hq⟩
theorem d_is : DOp K BF.rIsN (wIsN false) := fun b M H x y d e Q' Q al hx hy hw k => by
  cases hx <;> cases hy <;> first | exact hw.elim | exact BF.x_isNo (k _ _ _ (BF.Ex.refl H) (.bl _) hw)
theorem d_isnt : DOp K BF.rNotN (wIsN true) := fun b M H x y d e Q' Q al hx hy hw k => by
  cases hx <;> cases hy <;> first | exact hw.elim | exact BF.x_notNo (k _ _ _ (BF.Ex.refl H) (.bl _) hw)
end
end VF
/-! ## Lists of a slot's own; lambdas -/
namespace VF
open PySem PySem.Spec PyProof.Rows L2
def wListO (wr : WA) : WA := fun τ n Q => wr τ n fun ds τ1 n1 => ∃ xs, (ds = [.lst xs] ∨ ds = [.tup xs]) ∧ Q xs τ1 n1
def wLenV (i : Nat) : WE := fun τ n Q => ∃ s, τ[i]? = some (some s) ∧ match s with
  | .own xs => Q (.int (xs.length : Int)) τ n
  | .d x => wLen [x] fun f => Q f τ n
  | .self _ _ _ _ => False
  | .fix _ xs => Q (.int (xs.length : Int)) τ n
def wIxV (i : Nat) (wb : WE) : WE := fun τ n Q => (∃ xs, τ[i]? = some (some (.own xs)) ∨ τ[i]? = some (some (.d (.lst xs))) ∨ τ[i]? = some (some (.d (.tup xs)))) ∧ wb τ n fun k τ1 n1 => ∃ z xs x, k = .int z ∧ (τ1[i]? = some (some (.own xs)) ∨ τ1[i]? = some (some (.d (.lst xs))) ∨ τ1[i]? = some (some (.d (.tup xs)))) ∧ atI xs z = some x ∧ Q x τ1 n1
def wIns (i : Nat) (wa : WA) : WS := fun D τ n => (∃ xs, τ[i]? = some (some (.own xs))) ∧ wa τ n fun ds τ1 n1 => ∃ z d xs, ds = [.int z, d] ∧ τ1[i]? = some (some (.own xs)) ∧ xs.length < 1000000 ∧ 0 ≤ z ∧ z ≤ 1000000 ∧ D.nx (τ1.set i (some (.own (xs.take z.toNat ++ [d] ++ xs.drop z.toNat)))) n1
def rInsert : V → List V → Hp → VK → Prop := fun x vs H Q => ∃ (l : Addr) (xs : List V) (i : Int) (y : V), x = .ref l ∧ vs = [.int i, y] ∧ H l = some (.lst xs) ∧ xs.length < sizeLine ∧ 0 ≤ i ∧ i < 2 ^ 63 ∧ Q .non (upd H l (.lst (xs.take i.toNat ++ [y] ++ xs.drop i.toNat)))
theorem mt_insertN {X : Cx} : MtR X "list.insert" rInsert := mt_insert
section
variable {K : PySem.W.Frag} {W : Wc} {X : Cx} {e : Expr} {wr wi : WA} {we wb : WE} {st : Stmt} {Cs : Cf → Prop}
theorem vo_list (h : PE X e (tCB (BF.rListLT K) (liftA K W wr))) : PE X e (liftO K W (wListO wr)) := BF.PE.imp h fun σ H Q ⟨Γ, O, τ, n, Q', q, hw, k⟩ => ⟨Γ, O, τ, n, _, q, hw, fun vs H1 ds O1 τ1 n1 q1 d1 ⟨xs, ed, hq⟩ => by
  have fin : ∀ {us : List V}, DatL K W.b (ad O1 ++ W.M0) H1 us xs → ∀ p, H1 p = none → Q (.ref p) (upd H1 p (.lst us)) := fun {us} hd p hp => by
    have e : BF.Ex [] H1 (upd H1 p (.lst us)) := BF.Ex.new hp
    exact k p us _ xs O1 τ1 n1 (q1.apart hp e) upd_same (q1.newO hp) (q1.ownC hp) (DatL.ey (Ey.ex0 e) (DatL.fresh hp hd)) hq
  rcases ed with ed | ed
  · subst ed
    cases d1 with
    | cons h1 h2 =>
      cases h2
      cases h1 with
      | lst a1 a2 => exact ⟨_, _, rfl, .inl (SqL.of a1.1), fin a2⟩
  · subst ed
    cases d1 with
    | cons h1 h2 =>
      cases h2
      cases h1 with
      | tup a1 a2 => exact ⟨_, _, rfl, .inr a1.1, fin a2⟩⟩
theorem ve_lenV {i : Nat} (h : PE X e (tCB (fun xs H Q => ∃ x n, xs = [x] ∧ LenV K x H n ∧ Q (.int n) H) (tCons (tVar i) tNil))) : PE X e (liftE K W (wLenV i)) := BF.PE.imp h fun σ H Q ⟨Γ, O, τ, n, Q', q, ⟨s, hs, hw⟩, k⟩ => by
  obtain ⟨v, hv, hd⟩ := q.slot i s hs
  refine ⟨v, hv, ?_⟩
  cases s with
  | d x => exact d_len W.b (ad O ++ W.M0) H [v] [x] _ Q q.al (.cons hd .nil) hw fun z H' f ex df qf => k z H' f O τ n (q.ex ex) df qf
  | own xs =>
    obtain ⟨a, vs, e1, e2, e3, e4⟩ := hd
    subst e1
    exact ⟨_, _, rfl, .inl ⟨vs, SqL.of e3, e4.length.symm⟩, k _ H _ O τ n q (.int _) hw⟩
  | self z c ns ds => exact hw.elim
  | fix vs xs =>
    obtain ⟨a, e1, e2, e3⟩ := hd
    subst e1
    exact ⟨_, _, rfl, .inl ⟨vs, SqL.of e2.1, e3.length.symm⟩, k _ H _ O τ n q (.int _) hw⟩
theorem ve_ixV {i : Nat} (h : PE X e (tOp (BF.rIxLT K) (tVar i) (liftE K W wb))) : PE X e (liftE K W (wIxV i wb)) := BF.PE.imp h fun σ H Q ⟨Γ, O, τ, n, Q', q, ⟨⟨xs0, h0⟩, hw⟩, k⟩ => by
  have hv0 : ∃ v, σ[i]? = some (some v) := by
    rcases h0 with h0 | h0 | h0 <;> (obtain ⟨v, hv, _⟩ := q.slot i _ h0; exact ⟨v, hv⟩)
  obtain ⟨v, hv⟩ := hv0
  refine ⟨v, hv, Γ, O, τ, n, _, q, hw, fun u H1 kd O1 τ1 n1 q1 d1 ⟨z, xs, x, ek, hs, ha, hq⟩ => ?_⟩
  subst ek
  obtain rfl := int_of d1
  rcases hs with hs | hs | hs
  · obtain ⟨v', hv', a, vs, e1, e2, e3, e4⟩ := q1.slot i _ hs
    obtain rfl : v = v' := by
      rw [hv] at hv'
      exact Option.some.inj (Option.some.inj hv')
    subst e1
    obtain ⟨y, hy, dy⟩ := atI_dat e4 ha
    exact .inl ⟨a, vs, z, y, rfl, rfl, SqL.of e3, hy, k y H1 x O1 τ1 n1 q1 dy hq⟩
  · obtain ⟨v', hv', hd⟩ := q1.slot i _ hs
    obtain rfl : v = v' := by
      rw [hv] at hv'
      exact Option.some.inj (Option.some.inj hv')
    exact d_ix W.b _ H1 v (.int z) (.lst xs) (.int z) (fun f => Q' f τ1 n1) Q q1.al hd (.int z) ⟨x, ha, hq⟩ fun z H' f ex df qf => k z H' f O1 τ1 n1 (q1.ex ex) df qf
  · obtain ⟨v', hv', hd⟩ := q1.slot i _ hs
    obtain rfl : v = v' := by
      rw [hv] at hv'
      exact Option.some.inj (Option.some.inj hv')
    exact d_ix W.b _ H1 v (.int z) (.tup xs) (.int z) (fun f => Q' f τ1 n1) Q q1.al hd (.int z) ⟨x, ha, hq⟩ fun z H' f ex df qf => k z H' f O1 τ1 n1 (q1.ex ex) df qf
theorem vs_ins {i : Nat} (h : PS X st (tDrop (tBM K "list" rInsert (tVar i) (liftA K W wr)))) (i6 : i < 1000000 := by decide) : PS X st (liftS K W (wIns i wr)) := BF.PS.imp' h fun D σ H ⟨Γ, O, τ, n, D', q, ⟨⟨xs0, h0⟩, hw⟩, l⟩ => by
  obtain ⟨v, hv, a, vs, e1, e2, e3, e4⟩ := q.slot i _ h0
  subst e1
  refine ⟨_, hv, BF.x_tyL e3 ?_⟩
  refine ⟨Γ, O, τ, n, _, q, hw, fun us H1 ds O1 τ1 n1 q1 d1 ⟨z, d, xs, ed, hx, hl, z0, z1, hq⟩ => ?_⟩
  subst ed
  cases d1 with
  | @cons v0 _ _ _ dz dn =>
    cases dz
    cases dn with
    | @cons v1 _ _ _ dd dn =>
      cases dn
      obtain ⟨v', hv', a', vs', f1, f2, f3, f4⟩ := q1.slot i _ hx
      obtain rfl : V.ref a = v' := by
        rw [hv] at hv'
        exact Option.some.inj (Option.some.inj hv')
      cases f1
      refine ⟨a, vs', _, _, rfl, rfl, f3, BF.sz_lt (by rw [f4.length]; exact hl), z0, by omega, ?_⟩
      refine l.nx _ _ _ n1 O1 (q1.mut (s' := .own _) i6 f2 f3 nofun nofun (BF.Ex.wr (by simp) (BF.Ex.refl H1)) ⟨_, upd_same, .inl ⟨_, rfl⟩⟩ hv ⟨a, _, rfl, f2, upd_same, ?_⟩) hq
      have ee : Ey (ad O1 ++ W.M0) H1 (upd H1 a (.lst (vs'.take z.toNat ++ [v1] ++ vs'.drop z.toNat))) := (Ey.ex (BF.Ex.wr (M := [a]) (by simp) (BF.Ex.refl H1))).sub fun x hx => by
        rw [List.mem_singleton.mp hx]
        exact List.mem_append_left _ (List.mem_map.mpr ⟨_, f2, rfl⟩)
      have f5 := DatL.ey ee f4
      exact DatL.app (DatL.app (DatL.take _ f5) (.cons (Dat.ey ee dd) .nil)) (DatL.drop _ f5)
/-! lambdas -/
/-- the slots' own lists hidden -/
def hideO (τ : ST) : ST := τ.map fun o => match o with
  | some (.d x) => some (.d x)
  | some (.fix vs xs) => some (.fix vs xs)
  | _ => none
def liftLam (K : PySem.W.Frag) (Cs : Cf → Prop) (wb : XV → WE) (E : XK) : TE := fun σ H Q => ∃ W : Wc, Cs W.toCf ∧ ELinkG K W W.E' E ∧ liftE K W (wb W.E') σ H Q
theorem ve_lambody {wb : XV → WE} {E : XK} {body : Expr} (h : ∀ W : Wc, Cs W.toCf → ELinkG K W W.E' E → PE X body (liftE K W (wb W.E'))) : PE X body (liftLam K Cs wb E) := ⟨fun pins s σ H Q I ⟨W, h1, h2, q⟩ => (h W h1 h2).run pins s σ H Q I q⟩
/-- within a lambda: a run of its own, over what stands -/
theorem lam_in {Γ : List Gh} {O : Om} {τ : ST} {n : Int} {σ : L2.St} {H H1 : Hp} {wb : XV → WE} {E : XK} {E' : XV} {Q : VK} {Q' : DV → ST → Int → Prop} (hC : Cs W.toCf) (q : Rel K W Γ O [] τ n σ H) (eN : LamX.ExtN H H1) (T1 : LamX.Tabs W.T H1) (hw : wb E' (hideO τ) n Q')
    (hE : ∀ c ns ws es dd H' n', Rel K W Γ O [] τ n' σ H' → H' dd = some (.xd (ns.zip ws)) → ns.length = ws.length → DatL K W.b (ad O ++ W.M0) H' ws es → E' c ns es n' → E (.ref (He.ga K c)) (some dd) H')
    (k : ∀ v H' d τ' n', Rel K W Γ O [] τ n' σ H' → Dat K W.b (ad O ++ W.M0) H' v d → Q' d τ' n' → Q v H') : liftLam K Cs wb E σ H1 Q := by
  have al1 : AlN (ad O ++ W.M0) H1 := fun x hx => by
    obtain ⟨o, ho, t⟩ := q.al x hx
    exact ⟨o, eN _ _ ho t.nt, t⟩
  have b1 : W.B H1 n := W.Bk (fun x o hx h => by
    obtain ⟨o', h', t'⟩ := W.Ba q.bag x hx
    rw [h] at h'
    cases h'
    exact eN _ _ h t') q.bag
  have q1 : Rel K W Γ O [] τ n σ H1 := q.step (Ey.N eN) b1 T1 al1
  have back : ∀ {H' : Hp} {n' : Int}, Ey [W.b] H1 H' → AlN (ad O ++ W.M0) H' → W.B H' n' → LamX.Tabs W.T H' → Rel K W Γ O [] τ n' σ H' := fun e a b t => q1.step e b t a
  refine ⟨⟨W.toCf, [W.b], ad O ++ W.M0, H1, List.mem_append_right _ W.bm, List.mem_singleton.mpr rfl, E', E⟩, hC, fun c ns ws es dd H' n' e a b t h1 h2 h3 h4 => hE c ns ws es dd H' n' (back e a b t) h1 h2 h3 h4, [], [], hideO τ, n, Q', ?_, hw, fun v H' d O' τ' n' r dd hq => ?_⟩
  · refine ⟨by unfold hideO; rw [List.length_map]; exact q.len, by unfold hideO; rw [List.length_map]; exact q.few, fun i s hs => ?_, nofun, List.nodup_nil, nofun, Ey.refl _, b1, ⟨n, b1⟩, T1, al1, al1, fun x hx => .inl (List.mem_singleton.mp hx)⟩
    unfold hideO at hs
    rw [List.getElem?_map] at hs
    obtain ⟨o, ho, e⟩ := Option.map_eq_some_iff.mp hs
    cases o with
    | none => cases e
    | some s0 =>
      cases s0 with
      | d x =>
        cases e
        exact q1.slot i _ ho
      | own xs => cases e
      | self z c ns ds => cases e
      | fix vs xs =>
        cases e
        exact q1.slot i _ ho
  · exact k v H' d τ' n' (back r.ext (fun x hx => r.al x (List.mem_append_right _ hx)) r.bag r.tab) (Dat.sub (fun x hx => List.mem_append_right _ hx) dd) hq
end
end VF
/-! ## Pairs with a list of their own, truth, further words -/
namespace VF
open PySem PySem.Spec PyProof.Rows L2
def wParO1 (i j : Nat) (wo : WA) (we : WE) : WS := fun D τ n => wo τ n fun ds τ1 n1 => we τ1 n1 fun d τ2 n2 => D.nx ((τ2.set i (some (.own ds))).set j (some (.d d))) n2
def wParO2 (i j : Nat) (we : WE) (wo : WA) : WS := fun D τ n => we τ n fun d τ1 n1 => wo τ1 n1 fun ds τ2 n2 => D.nx ((τ2.set i (some (.d d))).set j (some (.own ds))) n2
def DV.tru : DV → Option Bool
  | .non => some false
  | .bl b => some b
  | .int i => some (i != 0)
  | .lst xs => some (!xs.isEmpty)
  | .tup xs => some (!xs.isEmpty)
  | _ => none
def wTru (we : WE) : WT := fun τ n Q => we τ n fun d τ1 n1 => ∃ b, d.tru = some b ∧ Q b τ1 n1
def wAug (i : Nat) (g : Int → Int → Int) (we : WE) : WS := fun D τ n => (∃ z, τ[i]? = some (some (.d (.int z)))) ∧ we τ n fun d τ1 n1 => ∃ z k, τ1[i]? = some (some (.d (.int z))) ∧ d = .int k ∧ D.nx (τ1.set i (some (.d (.int (g z k))))) n1
section
variable {K : PySem.W.Frag} {W : Wc} {X : Cx} {e : Expr} {wo : WA} {we : WE} {st : Stmt} {Γ : List Gh} {O : Om} {τ : ST} {n : Int} {σ : L2.St} {H : Hp}
theorem Rel.toGh {a : Addr} {vs : List V} {ds : List DV} (q : Rel K W Γ O [a] τ n σ H) (ha : H a = some (.lst vs)) (hn : a ∉ ad O ++ W.M0) (oc : OwnC W a) (hd : DatL K W.b (a :: (ad O ++ W.M0)) H vs ds) :
    Rel K W (.o 1000000 a vs ds :: Γ) ((1000000, a) :: O) [] τ n σ H ∧ ∀ j us es, Gh.o j a us es ∉ Γ := by
  refine ⟨⟨q.len, q.few, fun i s hs => ?_, fun g hg => ?_, List.nodup_cons.mpr ⟨fun z => hn (List.mem_append_left _ z), q.nd⟩, fun p hp => ?_, q.ext, q.bag, q.bag0, q.tab, fun x hx => ?_, q.al0, q.mdb⟩, fun j us es z => ?_⟩
  · obtain ⟨v, hv, k⟩ := q.slot i s hs
    exact ⟨v, hv, k.sub (fun x h => h) fun a h => List.mem_cons_of_mem _ h⟩
  · rcases List.mem_cons.mp hg with rfl | hg
    · exact ⟨Nat.le_refl _, List.mem_cons_self, ha, hd⟩
    · exact (q.gh g hg).sub (fun x h => h) fun j a _ h => List.mem_cons_of_mem _ h
  · rcases List.mem_cons.mp hp with rfl | hp
    · exact oc
    · exact q.own p hp
  · rcases List.mem_cons.mp (show x ∈ a :: (ad O ++ W.M0) from hx) with rfl | hx
    · exact ⟨_, ha, .inl ⟨_, rfl⟩⟩
    · exact q.al x hx
  · have h := (q.gh _ z).2.1
    exact hn (List.mem_append_left _ (List.mem_map.mpr ⟨_, h, rfl⟩))
theorem Rel.unGh {j : Nat} {a : Addr} {vs : List V} {ds : List DV} (q : Rel K W (.o j a vs ds :: Γ) O [] τ n σ H) (no : ∀ j' us es, Gh.o j' a us es ∉ Γ) :
    ∃ O', Rel K W Γ O' [a] τ n σ H ∧ H a = some (.lst vs) ∧ a ∉ ad O' ++ W.M0 ∧ OwnC W a ∧ DatL K W.b (a :: (ad O' ++ W.M0)) H vs ds ∧ ∀ x ∈ ad O' ++ W.M0, x ∈ ad O ++ W.M0 := by
  obtain ⟨hj, hO, hw, hd⟩ := q.gh (.o j a vs ds) List.mem_cons_self
  have s' : ∀ y ∈ ad (O.filter (fun p => decide (p.2 ≠ a))) ++ W.M0, y ∈ ad O ++ W.M0 := fun y hy => by
    rcases List.mem_append.mp hy with hy | hy
    · obtain ⟨p, hp, e⟩ := List.mem_map.mp hy
      exact List.mem_append_left _ (List.mem_map.mpr ⟨p, (List.mem_filter.mp hp).1, e⟩)
    · exact List.mem_append_right _ hy
  have s : ∀ y ∈ a :: (ad (O.filter (fun p => decide (p.2 ≠ a))) ++ W.M0), y ∈ ad O ++ W.M0 := fun y hy => by
    rcases List.mem_cons.mp hy with rfl | hy
    · exact List.mem_append_left _ (List.mem_map.mpr ⟨_, hO, rfl⟩)
    · exact s' y hy
  refine ⟨O.filter (fun p => decide (p.2 ≠ a)), ⟨q.len, q.few, fun i sv hs => ?_, fun g hg => ?_, q.nd.sublist (List.Sublist.map _ List.filter_sublist), fun p hp => q.own p (List.mem_filter.mp hp).1, q.ext, q.bag, q.bag0, q.tab, fun y hy => q.al y (s' y hy), q.al0, q.mdb⟩, hw, fun z => ?_, q.own _ hO, DatL.sub s hd, s'⟩
  · obtain ⟨v, hv, k⟩ := q.slot i sv hs
    refine ⟨v, hv, k.sub s fun b hb => List.mem_filter.mpr ⟨hb, decide_eq_true fun z => ?_⟩⟩
    have z : b = a := z
    subst z
    have := nd_inj q.nd hb hO
    have h1 := (List.getElem?_eq_some_iff.mp hs).1
    have := q.few
    omega
  · have k := q.gh g (List.mem_cons_of_mem _ hg)
    cases g with
    | d v x => exact Dat.sub s k
    | dl vs ds => exact DatL.sub s k
    | l b vs ds => exact ⟨k.1.sub s, DatL.sub s k.2⟩
    | t b vs ds => exact ⟨k.1.sub s, DatL.sub s k.2⟩
    | o j' b us ds =>
      refine ⟨k.1, List.mem_filter.mpr ⟨k.2.1, decide_eq_true fun z => ?_⟩, k.2.2.1, DatL.sub s k.2.2.2⟩
      have z : b = a := z
      subst z
      exact no _ _ _ hg
  · rcases List.mem_append.mp z with z | z
    · obtain ⟨p, hp, e⟩ := List.mem_map.mp z
      exact of_decide_eq_true (List.mem_filter.mp hp).2 e
    · exact (q.own _ hO).2.1 z
theorem vs_parO1 {i j : Nat} (h : PS X st (tPar i j (tCons (liftO K W wo) (tCons (liftE K W we) tNil)))) (i6 : i < 1000000 := by decide) (j6 : j < 1000000 := by decide) : PS X st (liftS K W (wParO1 i j wo we)) := BF.PS.imp' h fun D σ H ⟨Γ, O, τ, n, D', q, hw, l⟩ => by
  refine ⟨Γ, O, τ, n, _, q, hw, fun a vs H1 ds O1 τ1 n1 q1 h1 h2 h3 h4 hq => ?_⟩
  obtain ⟨q2, no⟩ := q1.toGh h1 h2 h3 h4
  refine ⟨_, _, τ1, n1, _, q2, hq, fun v H2 d O2 τ2 n2 q3 d3 hq' => ⟨_, _, rfl, ?_⟩⟩
  obtain ⟨O', q4, h5, h6, h7, h8, h9⟩ := q3.unGh no
  have d4 := Dat.sub (M' := a :: (ad O' ++ W.M0)) (fun x hx => by
    rcases List.mem_cons.mp hx with rfl | hx
    · exact List.mem_append_left _ (List.mem_map.mpr ⟨_, (q3.gh _ List.mem_cons_self).2.1, rfl⟩)
    · exact h9 x hx) d3
  have q5 := q4.putO i6 h5 h6 h7 h8
  have d5 : Dat K W.b (ad ((i, a) :: O'.filter (fun p => decide (p.1 ≠ i))) ++ W.M0) H2 v d := Dat.sub (fun y hy => by
    rcases List.mem_cons.mp (show y ∈ a :: (ad (O'.filter (fun p => decide (p.1 ≠ i))) ++ W.M0) from hy) with rfl | hy
    · exact List.mem_cons_self
    · exact List.mem_cons_of_mem _ (f_sub y hy)) d4
  exact l.nx _ H2 _ n2 _ (q5.put j6 d5) hq'
theorem vs_parO2 {i j : Nat} (hij : i ≠ j) (h : PS X st (tPar i j (tCons (liftE K W we) (tCons (liftO K W wo) tNil)))) (i6 : i < 1000000 := by decide) (j6 : j < 1000000 := by decide) : PS X st (liftS K W (wParO2 i j we wo)) := BF.PS.imp' h fun D σ H ⟨Γ, O, τ, n, D', q, hw, l⟩ => by
  refine ⟨Γ, O, τ, n, _, q, hw, fun v H1 d O1 τ1 n1 q1 d1 hq => ?_⟩
  refine ⟨.d v d :: Γ, O1, τ1, n1, _, q1.gcons d1, hq, fun a vs H2 ds O2 τ2 n2 q2 h1 h2 h3 h4 hq' => ⟨_, _, rfl, ?_⟩⟩
  have q3 := q2.putO j6 h1 h2 h3 h4
  have dv : Dat K W.b (ad ((j, a) :: O2.filter (fun p => decide (p.1 ≠ j))) ++ W.M0) H2 v d := q3.gh (.d v d) List.mem_cons_self
  have q4 := (q3.tail).put i6 dv
  have q5 := q4
  rw [List.set_comm _ _ (Ne.symm hij), show (σ.set j (some (V.ref a))).set i (some v) = (σ.set i (some v)).set j (some (V.ref a)) from List.set_comm _ _ (Ne.symm hij)] at q5
  exact l.nx _ H2 _ n2 _ q5 hq'
theorem vs_aug {i : Nat} {g : Int → Int → Int} (h : PS X st (tAug i (liftE K W we) (ipI g))) (i6 : i < 1000000 := by decide) : PS X st (liftS K W (wAug i g we)) := BF.PS.imp' h fun D σ H ⟨Γ, O, τ, n, D', q, ⟨⟨z0, h0⟩, hw⟩, l⟩ => by
  obtain ⟨v, hv, hd⟩ := q.slot i _ h0
  refine ⟨v, hv, Γ, O, τ, n, _, q, hw, fun u H1 d O1 τ1 n1 q1 d1 ⟨z, k, hz, ed, hq⟩ => ?_⟩
  subst ed
  obtain ⟨v', hv', hd'⟩ := q1.slot i _ hz
  obtain rfl : v = v' := by
    rw [hv] at hv'
    exact Option.some.inj (Option.some.inj hv')
  exact ⟨z, k, int_of hd', int_of d1, l.nx _ H1 _ n1 _ (q1.put i6 (.int _)) hq⟩
theorem tru_of {b : Addr} {M : List Addr} {v : V} {d : DV} {x : Bool} (h : Dat K b M H v d) (e : d.tru = some x) : TruV K v H x := by
  cases h with
  | non => cases e; rfl
  | bl b => cases e; rfl
  | int i => cases e; rfl
  | lst h1 h2 =>
    cases e
    refine .inl ⟨_, SqL.of h1.1, ?_⟩
    cases h2 <;> rfl
  | tup h1 h2 =>
    cases e
    refine .inr (.inl ⟨_, h1.1, ?_⟩)
    cases h2 <;> rfl
  | _ => cases e
theorem vt_tru (h : PT X e (fun σ H Q => liftE K W we σ H fun x H' => ∃ k, TruV K x H' k ∧ Q k H')) : PT X e (liftT K W (wTru we)) := PT.imp h fun σ H Q ⟨Γ, O, τ, n, Q', q, hw, k⟩ =>
  ⟨Γ, O, τ, n, _, q, hw, fun v H1 d O1 τ1 n1 q1 d1 ⟨b, eb, hq⟩ => ⟨b, tru_of d1 eb, k b H1 O1 τ1 n1 q1 hq⟩⟩
end
end VF
/-! ## Own comparisons; the very same items -/
namespace VF
open PySem PySem.Spec PyProof.Rows L2
section
variable {X : Cx} {CX : CXT} {k : Nat} {f C : Addr} {fd : FuncData} {ps : List Str} {sp : Sp} {E : XK}
/-- a != b of two instances of the class at C by its own __eq__ -/
def rOwnNe (C : Addr) (sp : Sp) (E : XK) : R2 := fun x y H Q => ∃ a b dx dy fs gs, x = .ref a ∧ y = .ref b ∧ H a = some (.ins C dx fs) ∧ H b = some (.ins C dy gs) ∧ sp [.ref a, .ref b] H (fun v H' => ∃ k, v = .bl k ∧ Q (.bl (!k)) H') E
theorem op_ownNe (Fn : FnOk X.prog X.w X.K X.mg X.base CX k f fd ps sp) (hr : Room (k + 1) X.A) (hm : PySem.W.mroIn X.K C (.type "object") = some true) (hn : PySem.W.findIn X.K (.ref C) "__ne__" = some (some (.builtin "object.__ne__"))) (hs : PySem.W.findIn X.K (.ref C) "__eq__" = some (some (.ref f)))
    (hf : PySem.W.isFn X.K (.ref f) = true) (hb : Binds X.K fd ps []) (hx : Passes CX X E) : OpR X (compareOp .NotEq) (rOwnNe C sp E) := by
  intro pins s σ H x y v u Q I rx ry hq
  obtain ⟨a, b, dx, dy, fs, gs, rfl, rfl, ha, hb', q⟩ := hq
  cases rx
  cases ry
  obtain ⟨mA, J, _⟩ := ins_get I.hok ha
  obtain ⟨mB, J', _⟩ := ins_get I.hok hb'
  obtain ⟨od, J, _⟩ := J.look
  obtain ⟨od', J', _⟩ := J'.look
  have hu : X.A.units < cLine := hr.units0
  have hu1 : X.A.in1.units < cLine := hr.in1.units0
  have run : wpAny (model X.prog X.w) X.A.in1 (call (.ref f) [.ref a, .ref b]) (fun v s' => ∃ k, v = .bool k ∧ EP X pins σ Q (.bool (!k)) s') X.xe s := by
    have hl := Fn.len _ _ _ _ q
    have r2 : Vals [V.ref a, V.ref b] [Value.ref a, Value.ref b] := .cons rfl (.cons rfl .nil)
    refine wpAny_call (codeAny_mono (Fn.run X.A.in1 X.stack s H ⟨[.ref a, .ref b], []⟩ [.ref a, .ref b] [.ref a, .ref b] _ E hr.in1 I.env0.in1 (by
      have := hb s [.ref a, .ref b] I.kIn (by simpa using hl)
      simpa using this) r2 q) fun r s' hq => ?_)
    cases r with
    | error e => exact hx pins σ H s e s' I hq
    | ok fl =>
      cases fl with
      | ret w =>
        obtain ⟨z, H', I', rz, k, ez, qq⟩ := I.after hq
        subst ez
        cases rz
        exact ⟨k, rfl, .bl (!k), H', I', rfl, qq⟩
      | next => exact False.elim hq
      | brk => exact False.elim hq
      | cont => exact False.elim hq
  have body : wpAny (model X.prog X.w) X.A.in1 (Builtin.«object.__ne__» ⟨[.ref a, .ref b], []⟩) (fun fin s' => ∃ k, fin = .done (.ret (.bool (!k))) ∧ EP X pins σ Q (.bool (!k)) s') X.xe s := by
    unfold Builtin.«object.__ne__»
    repeat (first
      | with_reducible refine wpAny_cRoomFor hu1 ?_
      | (refine wpAny_bind (m := callSpecialIfBound? (.ref a) (Str.ofString "__eq__") [.ref b]) (PySem.W.ifBound_K I.kIn J hs hf (wpAny_mono run (fun r s' hr => by
          obtain ⟨k, rfl, hq⟩ := hr
          repeat (first | exact ⟨k, rfl, hq⟩ | exact wpAny_pure ⟨k, rfl, hq⟩ | (refine wpAny_bind (m := truthy (.bool _)) (wpAny_truthy_bool ?_)) | wp_step)) fun _ _ e => e)))
      | wp_step)
  have called : wpAny (model X.prog X.w) X.A (call (.builtin "object.__ne__") [.ref a, .ref b]) (fun v s' => v ≠ .notImplemented ∧ EP X pins σ Q v s') X.xe s := by
    refine wpAny_call (codeAny_call_builtin F.cmp_object.ne.plain F.cmpEntry_ne (PySem.W.check_slot F.cmpKind_ne F.cmpSplit_ne (J.type.andThen (PySem.W.looks_mroIn I.kIn hm)) (F.cmpArgs_ne _ _) (wpAny_mono body (fun fin s' h => ?_) fun _ _ e => e)))
    obtain ⟨k, rfl, h⟩ := h
    exact ⟨nofun, h⟩
  have bound : wpAny (model X.prog X.w) X.A (callSpecialIfBound? (.ref a) "__ne__" [.ref b]) (fun r s' => ∃ v, r = some v ∧ v ≠ .notImplemented ∧ EP X pins σ Q v s') X.xe s := by
    simp only [callSpecialIfBound?, bindSpecialIfBound?]
    refine wpAny_holding (wpAny_bind (wpAny_bind (wpAny_bind (J.type.here ((PySem.W.looks_findIn I.kIn hn).here ?_)))))
    refine wpAny_bind (wpAny_askSetting (wpAny_ite ?_))
    have fin : wpAny (model X.prog X.w) X.A (call (.builtin "object.__ne__") ([.ref a] ++ [.ref b]) >>= fun v => pure (some v)) (fun r s' => ∃ v, r = some v ∧ v ≠ .notImplemented ∧ EP X pins σ Q v s') X.xe s := wpAny_bind (wpAny_mono called (fun v s' h' => wpAny_pure ⟨v, rfl, h'⟩) fun _ _ h' => h')
    split
    · exact wpAny_bind (wpAny_of_eq (F.cmp_object.ne.bind _) (wpAny_pure (by exact fin)))
    · exact wpAny_tryCatch (wpAny_bind (wpAny_of_eq (F.cmp_object.ne.bind _) (wpAny_pure (by exact fin))))
  have one : wpAny (model X.prog X.w) X.A (tryCompare (.ref a) "__ne__" (.ref b)) (fun r s' => ∃ v, r = some v ∧ EP X pins σ Q v s') X.xe s := by
    unfold tryCompare
    refine wpAny_bind (wpAny_mono bound (fun r s' h => ?_) fun _ _ e => e)
    obtain ⟨v, rfl, hv, h⟩ := h
    cases v <;> first | exact absurd rfl hv | exact wpAny_pure ⟨_, rfl, h⟩
  show wpAny (model X.prog X.w) X.A (richCompare .NotEq (.ref a) (.ref b)) (EP X pins σ Q) X.xe s
  unfold richCompare
  simp only [oneThing_ref]
  refine wpAny_holding (wpAny_bind (wpAny_cRoomFor hu ?_))
  refine wpAny_bind (J.type.here (wpAny_bind (J'.type.here ?_)))
  rw [show (Value.ref C != Value.ref C) = false from by simp]
  simp only [Bool.false_eq_true, if_false]
  refine wpAny_bind (wpAny_pure ?_)
  simp only [Bool.false_eq_true, if_false]
  refine wpAny_bind (m := tryCompare (.ref a) _ (.ref b)) (wpAny_mono one (fun r s' z => ?_) fun _ _ e => e)
  obtain ⟨v, rfl, hq⟩ := z
  exact wpAny_pure hq
/-- two lists of the very same items -/
def rSame (k : Bool) : R2 := fun x y H Q => ∃ a b vs, x = .ref a ∧ y = .ref b ∧ H a = some (.lst vs) ∧ H b = some (.lst vs) ∧ (∀ v ∈ vs, ∃ c, v = .ref c) ∧ Q (.bl k) H
theorem op_neSame (hu : X.A.units + 64 < cLine) : OpR X (compareOp .NotEq) (rSame false) := by
  intro pins s σ H x y v u Q I rx ry hq
  obtain ⟨a, b, vs, rfl, rfl, ha, hb, hr, q⟩ := hq
  cases rx
  cases ry
  obtain ⟨its, r1, ⟨o1, n1, e1, c1, d1, f1⟩, _⟩ := I.list (SqL.of ha)
  obtain ⟨its', r2, ⟨o2, n2, e2, c2, d2, f2⟩, _⟩ := I.list (SqL.of hb)
  have hi : ∀ {vs : List V} {us us' : List Value}, Vals vs us → Vals vs us' → (∀ v ∈ vs, ∃ c, v = .ref c) → us = us' := by
    intro vs us us' h1
    induction h1 generalizing us' with
    | nil => intro h2 _; cases h2; rfl
    | cons r t ih =>
      intro h2 hr
      cases h2 with
      | cons r' t' =>
        obtain ⟨c, rfl⟩ := hr _ List.mem_cons_self
        cases r
        cases r'
        rw [ih t' fun v hv => hr v (List.mem_cons_of_mem _ hv)]
  have e := hi r1 r2 hr
  subst e
  have z := SeqAt.RcNeAt.lists (e := fun _ => true) (s := s) (A := X.A) ⟨o1, e1, c1, n1, f1⟩ ⟨o2, e2, c2, n2, f2⟩ rfl (by omega) (fun j _ _ => SeqAt.EqAt.same _)
  exact z X.prog X.w X.xe _ (by
    rw [show (!(List.range its.toArray.size).all fun _ => true) = false by simp]
    exact ⟨.bl false, H, I, rfl, q⟩)
end
section
variable {K : PySem.W.Frag} {W : Wc} {X : Cx} {e : Expr} {wa wb : WE} {st : Stmt} {Γ : List Gh} {O : Om} {τ : ST} {n : Int} {σ : L2.St} {H : Hp} {Cs : Cf → Prop}
def wOwn2 (neg : Bool) (cl : Str) (sp : DSp) (E' : XV) (wa wb : WE) : WE := fun τ n Q => wa τ n fun d τ1 n1 => wb τ1 n1 fun f τ2 n2 => ∃ ns es ns' es', d = .ins cl ns es ∧ f = .ins cl ns' es' ∧ sp [d, f] n2 (fun g n3 => if neg = true then ∃ k, g = .bl k ∧ Q (.bl (!k)) τ2 n3 else Q g τ2 n3) E'
theorem ve_own2 {sp : DSp} {E' : XV} {E : XK} {cl : Str} (hC : Cs W.toCf) (hE : ELinkG K W E' E) (h : PE X e (tOp (BF.rOwn (He.ga K cl) (liftSp K Cs sp) E) (liftE K W wa) (liftE K W wb))) : PE X e (liftE K W (wOwn2 false cl sp E' wa wb)) := by
  refine BF.PE.imp h fun σ H Q ⟨Γ, O, τ, n, Q', q, hw, k⟩ => ?_
  refine ⟨Γ, O, τ, n, _, q, hw, fun v H1 d O1 τ1 n1 q1 d1 hw1 => ?_⟩
  refine ⟨.d v d :: Γ, O1, τ1, n1, _, q1.gcons d1, hw1, fun u H2 f O2 τ2 n2 q2 d2 ⟨ns, es, ns', es', ed, ef, hw2⟩ => ?_⟩
  have d3 := q2.head
  subst ed ef
  have a1 := d3
  have a2 := d2
  cases d3 with
  | ins h1 h2 h3 h4 =>
    cases d2 with
    | ins k1 k2 k3 k4 => exact ⟨_, _, _, _, _, _, rfl, rfl, h1, k1, sp_call hC hE q2.tail (.cons a1 (.cons a2 .nil)) hw2 k⟩
theorem ve_own2Ne {sp : DSp} {E' : XV} {E : XK} {cl : Str} (hC : Cs W.toCf) (hE : ELinkG K W E' E) (h : PE X e (tOp (rOwnNe (He.ga K cl) (liftSp K Cs sp) E) (liftE K W wa) (liftE K W wb))) : PE X e (liftE K W (wOwn2 true cl sp E' wa wb)) := by
  refine BF.PE.imp h fun σ H Q ⟨Γ, O, τ, n, Q', q, hw, k⟩ => ?_
  refine ⟨Γ, O, τ, n, _, q, hw, fun v H1 d O1 τ1 n1 q1 d1 hw1 => ?_⟩
  refine ⟨.d v d :: Γ, O1, τ1, n1, _, q1.gcons d1, hw1, fun u H2 f O2 τ2 n2 q2 d2 ⟨ns, es, ns', es', ed, ef, hw2⟩ => ?_⟩
  have d3 := q2.head
  subst ed ef
  have a1 := d3
  have a2 := d2
  cases d3 with
  | ins h1 h2 h3 h4 =>
    cases d2 with
    | ins k1 k2 k3 k4 =>
      refine ⟨_, _, _, _, _, _, rfl, rfl, h1, k1, sp_call (Q' := fun g τ' n3 => ∃ k, g = .bl k ∧ Q' (.bl (!k)) τ' n3) hC hE q2.tail (.cons a1 (.cons a2 .nil)) hw2 fun v H' d O' τ' n' r dd ⟨b, eb, hq⟩ => ?_⟩
      subst eb
      exact ⟨b, bl_of dd, k _ H' _ O' τ' n' r (.bl _) hq⟩
/-- y = list(x): the very same items -/
def wCp (i j : Nat) : WS := fun D τ n => ∃ xs, τ[i]? = some (some (.d (.lst xs))) ∧ ∀ vs, D.nx ((τ.set i (some (.fix vs xs))).set j (some (.fix vs xs))) n
theorem Rel.putS (q : Rel K W Γ O [] τ n σ H) {i : Nat} {v : V} {s : SV} (i6 : i < 1000000) (hs : ∀ O' M', (∀ x ∈ M', x ∈ ad O ++ W.M0) → SlOk K W.b O' M' H i v s) : Rel K W Γ (O.filter (fun p => decide (p.1 ≠ i))) [] (τ.set i (some s)) n (σ.set i (some v)) H := by
  refine ⟨by rw [List.length_set, List.length_set]; exact q.len, by rw [List.length_set]; exact q.few, fun j s' hj => ?_, fun g hg => (q.gh g hg).sub f_sub fun j a h1 h2 => List.mem_filter.mpr ⟨h2, decide_eq_true (show j ≠ i by omega)⟩, q.nd.sublist (List.Sublist.map _ List.filter_sublist), fun p hp => q.own p (List.mem_filter.mp hp).1, q.ext, q.bag, q.bag0, q.tab, fun y hy => q.al y (f_sub y hy), q.al0, q.mdb⟩
  by_cases e : j = i
  · subst e
    by_cases hi : j < τ.length
    · rw [List.getElem?_set_self hi] at hj
      cases hj
      exact ⟨v, by rw [List.getElem?_set_self (by rw [← q.len]; exact hi)], hs _ _ f_sub⟩
    · rw [List.getElem?_eq_none (by rw [List.length_set]; omega)] at hj
      cases hj
  · rw [List.getElem?_set_ne (Ne.symm e)] at hj ⊢
    obtain ⟨u, hu, k⟩ := q.slot j s' hj
    exact ⟨u, hu, k.sub f_sub fun a ha => List.mem_filter.mpr ⟨ha, decide_eq_true e⟩⟩
theorem vs_cp {i j : Nat} (hij : i ≠ j) (h : PS X st (tAsg (tCB (BF.rListLT K) (tCons (tVar i) tNil)) (gName j))) (i6 : i < 1000000 := by decide) (j6 : j < 1000000 := by decide) : PS X st (liftS K W (wCp i j)) := BF.PS.imp' h fun D σ H ⟨Γ, O, τ, n, D', q, ⟨xs, hx, hw⟩, l⟩ => by
  obtain ⟨v, hv, hd⟩ := q.slot i _ hx
  refine ⟨v, hv, ?_⟩
  cases (hd : Dat K W.b (ad O ++ W.M0) H v (.lst xs)) with
  | @lst a vs _ h1 h2 =>
    refine ⟨a, vs, rfl, .inl (SqL.of h1.1), fun p hp => ?_⟩
    have ex : BF.Ex [] H (upd H p (.lst vs)) := BF.Ex.new hp
    have q1 := q.ex ex
    have h1' := h1.ey (Ey.ex0 ex)
    have h2' := DatL.ey (Ey.ex0 ex) h2
    have pn := q.newO hp
    have q2 := q1.putS (i := i) (v := .ref a) (s := .fix vs xs) i6 fun O' M' s => ⟨a, rfl, h1'.sub s, DatL.sub s h2'⟩
    have q3 := q2.putS (i := j) (v := .ref p) (s := .fix vs xs) j6 fun O' M' s => ⟨p, rfl, ⟨upd_same, fun z => pn (f_sub _ (s _ z))⟩, DatL.sub (fun x hx => f_sub _ (s x hx)) h2'⟩
    have e : σ.set i (some (V.ref a)) = σ := by
      apply List.ext_getElem?
      intro m
      by_cases em : m = i
      · subst em
        rw [List.getElem?_set_self (List.getElem?_eq_some_iff.mp hv).1, hv]
      · rw [List.getElem?_set_ne (Ne.symm em)]
    rw [e] at q3
    exact l.nx _ _ _ _ _ q3 (hw vs)
def wSame (k : Bool) (i j : Nat) : WE := fun τ n Q => ∃ vs xs ys, τ[i]? = some (some (.fix vs xs)) ∧ τ[j]? = some (some (.fix vs ys)) ∧ (∀ x ∈ xs, (∃ c ns es, x = .ins c ns es) ∨ (∃ es, x = .tup es) ∨ ∃ es, x = .lst es) ∧ Q (.bl k) τ n
theorem ve_same {k : Bool} {i j : Nat} (h : PE X e (tOp (rSame k) (tVar i) (tVar j))) : PE X e (liftE K W (wSame k i j)) := BF.PE.imp h fun σ H Q ⟨Γ, O, τ, n, Q', q, ⟨vs, xs, ys, h1, h2, hr, hq⟩, k'⟩ => by
  obtain ⟨v, hv, a, e1, e2, e3⟩ := q.slot i _ h1
  obtain ⟨u, hu, b, f1, f2, f3⟩ := q.slot j _ h2
  subst e1 f1
  refine ⟨_, hv, _, hu, a, b, vs, rfl, rfl, e2.1, f2.1, fun v hv => ?_, k' _ H _ O τ n q (.bl _) hq⟩
  obtain ⟨m, hm⟩ := List.mem_iff_getElem?.mp hv
  obtain ⟨d, hd, dd⟩ := e3.get hm
  rcases hr d (List.mem_of_getElem? hd) with ⟨c, ns, es, rfl⟩ | ⟨es, rfl⟩ | ⟨es, rfl⟩ <;> cases dd <;> exact ⟨_, rfl⟩
end
end VF
/-! ## Steps of the readings by data -/
namespace VF
open PySem PySem.Spec PyProof.Rows L2
/-- what follows, the slots to be written out -/
def Nx (D : WEnds) (τ : ST) (n : Int) : Prop := D.nx τ n
def NxG (Q : ST → Prop) (τ : ST) : Prop := Q τ
section
variable {K : PySem.W.Frag} {D : WEnds} {τ τ' : ST} {n : Int} {Q : DV → ST → Int → Prop} {QA : List DV → ST → Int → Prop} {QB : Bool → ST → Int → Prop} {P : DP} {we wa wb wc : WE} {wr wo wi : WA} {t u : WT} {s s' : WS} {g : WG} {gs : WGs} {i j : Nat} {d e : DV} {ds xs ys : List DV} {E' : XV} {QG : ST → Prop}
theorem y_nx (h : τ = τ') (k : D.nx τ' n) : Nx D τ n := by
  subst h
  exact k
theorem y_nxG (h : τ = τ') (k : QG τ') : NxG QG τ := by
  subst h
  exact k
theorem y_seq (k : s { D with nx := s' D } τ n) : wSeq s s' D τ n := k
theorem y_next (k : D.nx τ n) : wNext D τ n := k
theorem y_set (k : we τ n fun d τ1 n1 => Nx D (τ1.set i (some (.d d))) n1) : wSet i we D τ n := k
theorem y_setO (k : wo τ n fun ds τ1 n1 => Nx D (τ1.set i (some (.own ds))) n1) : wSetO i wo D τ n := k
theorem y_asg (k : we τ n fun d τ1 n1 => g d τ1 fun τ2 => D.nx τ2 n1) : wAsg we g D τ n := k
theorem y_par (k : wr τ n fun ds τ1 n1 => ∃ d e, ds = [d, e] ∧ Nx D ((τ1.set i (some (.d d))).set j (some (.d e))) n1) : wPar i j wr D τ n := k
theorem y_par2 {R : DV → DV → Prop} (k : R d e) : ∃ d' e', [d, e] = [d', e'] ∧ R d' e' := ⟨d, e, rfl, k⟩
theorem y_parO1 (k : wo τ n fun ds τ1 n1 => we τ1 n1 fun d τ2 n2 => Nx D ((τ2.set i (some (.own ds))).set j (some (.d d))) n2) : wParO1 i j wo we D τ n := k
theorem y_parO2 (k : we τ n fun d τ1 n1 => wo τ1 n1 fun ds τ2 n2 => Nx D ((τ2.set i (some (.d d))).set j (some (.own ds))) n2) : wParO2 i j we wo D τ n := k
theorem y_ret (k : we τ n fun d _ n1 => D.rt d n1) : wRet we D τ n := k
theorem y_retN (k : D.rt .non n) : wRetN D τ n := k
theorem y_ifS (k : t τ n fun b τ1 n1 => if b = true then s D τ1 n1 else s' D τ1 n1) : wIfS t s s' D τ n := k
theorem y_drop (k : we τ n fun _ τ1 n1 => D.nx τ1 n1) : wDrop we D τ n := k
theorem y_brk (k : D.bk τ n) : wBrk D τ n := k
theorem y_cnt (k : D.ct τ n) : wCnt D τ n := k
theorem y_app (h : τ[i]? = some (some (.own ys))) (k : wr τ n fun ds τ1 n1 => ∃ d xs, ds = [d] ∧ τ1[i]? = some (some (.own xs)) ∧ xs.length < 1000000 ∧ Nx D (τ1.set i (some (.own (xs ++ [d])))) n1) : wApp i wr D τ n := ⟨⟨ys, h⟩, k⟩
theorem y_app2 (h : τ[i]? = some (some (.own xs))) (l : xs.length < 1000000) (k : Nx D (τ.set i (some (.own (xs ++ [d])))) n) : ∃ d' xs, [d] = [d'] ∧ τ[i]? = some (some (.own xs)) ∧ xs.length < 1000000 ∧ Nx D (τ.set i (some (.own (xs ++ [d'])))) n := ⟨d, xs, rfl, h, l, k⟩
theorem y_ins (h : τ[i]? = some (some (.own ys))) (k : wr τ n fun ds τ1 n1 => ∃ z d xs, ds = [.int z, d] ∧ τ1[i]? = some (some (.own xs)) ∧ xs.length < 1000000 ∧ 0 ≤ z ∧ z ≤ 1000000 ∧ Nx D (τ1.set i (some (.own (xs.take z.toNat ++ [d] ++ xs.drop z.toNat)))) n1) : wIns i wr D τ n := ⟨⟨ys, h⟩, k⟩
theorem y_ins2 {z : Int} (h : τ[i]? = some (some (.own xs))) (l : xs.length < 1000000) (z0 : 0 ≤ z) (z1 : z ≤ 1000000) (k : Nx D (τ.set i (some (.own (xs.take z.toNat ++ [d] ++ xs.drop z.toNat)))) n) :
    ∃ z' d' xs, [.int z, d] = [.int z', d'] ∧ τ[i]? = some (some (.own xs)) ∧ xs.length < 1000000 ∧ 0 ≤ z' ∧ z' ≤ 1000000 ∧ Nx D (τ.set i (some (.own (xs.take z'.toNat ++ [d'] ++ xs.drop z'.toNat)))) n := ⟨z, d, xs, rfl, h, l, z0, z1, k⟩
theorem y_setI (k : we τ n fun d τ1 n1 => (∃ xs, τ1[i]? = some (some (.own xs))) ∧ wb τ1 n1 fun k τ2 n2 => ∃ z j xs, k = .int z ∧ τ2[i]? = some (some (.own xs)) ∧ ixN xs.length z = some j ∧ Nx D (τ2.set i (some (.own (xs.set j d)))) n2) : wSetI i wb we D τ n := k
theorem y_setI1 {R : Prop} (h : τ[i]? = some (some (.own xs))) (k : R) : (∃ xs, τ[i]? = some (some (.own xs))) ∧ R := ⟨⟨xs, h⟩, k⟩
theorem y_setI2 {z : Int} {m : Nat} (h : τ[i]? = some (some (.own xs))) (hm : ixN xs.length z = some m) (k : Nx D (τ.set i (some (.own (xs.set m d)))) n) : ∃ z' j xs, DV.int z = .int z' ∧ τ[i]? = some (some (.own xs)) ∧ ixN xs.length z' = some j ∧ Nx D (τ.set i (some (.own (xs.set j d)))) n := ⟨z, m, xs, rfl, h, hm, k⟩
theorem y_for (k : wi τ n fun ds τ1 n1 => wLoop g s D ds τ1 n1) : wFor wi g s D τ n := k
theorem y_loop (I : Nat → ST → Int → Prop) (h0 : I 0 τ n) (hs : ∀ i d τ n, ds[i]? = some d → I i τ n → g d τ fun τ1 => s { D with nx := I (i + 1), ct := I (i + 1), bk := D.nx } τ1 n) (hd : ∀ τ n, I ds.length τ n → D.nx τ n) : wLoop g s D ds τ n := ⟨I, h0, hs, hd⟩
theorem y_raise {c : Str} {ns : List Str} {gd : List DV → List DV} {k : Nat} (h : wr τ n fun ds _ n1 => ds.length = k ∧ E' c ns (gd ds) n1) : wRaise c ns gd k E' wr D τ n := h
/-! expressions -/
theorem y_var (h : τ[i]? = some (some (.d d))) (k : Q d τ n) : wVar i τ n Q := ⟨_, h, k⟩
theorem y_varO (h : τ[i]? = some (some (.own xs))) (k : Q (.lst xs) (τ.set i (some (.d (.lst xs)))) n) : wVar i τ n Q := ⟨_, h, k⟩
theorem y_varF {vs : List V} (h : τ[i]? = some (some (.fix vs xs))) (k : Q (.lst xs) τ n) : wVar i τ n Q := ⟨_, h, k⟩
theorem y_c (k : Q d τ n) : wC d τ n Q := k
theorem y_op {w : DV → DV → DP → Prop} (k : wa τ n fun d τ1 n1 => wb τ1 n1 fun e τ2 n2 => w d e fun f => Q f τ2 n2) : wOp w wa wb τ n Q := k
theorem y_un {w : DV → DP → Prop} (k : wa τ n fun d τ1 n1 => w d fun f => Q f τ1 n1) : wUn w wa τ n Q := k
theorem y_nil (k : QA [] τ n) : wNil τ n QA := k
theorem y_cons (k : we τ n fun d τ1 n1 => wr τ1 n1 fun ds τ2 n2 => QA (d :: ds) τ2 n2) : wCons we wr τ n QA := k
theorem y_cb {w : List DV → DP → Prop} (k : wr τ n fun ds τ1 n1 => w ds fun f => Q f τ1 n1) : wCB w wr τ n Q := k
theorem y_tup (k : wr τ n fun ds τ1 n1 => ds.length ≤ 1000000 ∧ Q (.tup ds) τ1 n1) : wTup wr τ n Q := k
theorem y_lst (k : wr τ n fun ds τ1 n1 => ds.length ≤ 1000000 ∧ Q (.lst ds) τ1 n1) : wLst wr τ n Q := k
theorem y_lstO (k : wr τ n fun ds τ1 n1 => ds.length ≤ 1000000 ∧ QA ds τ1 n1) : wLstO wr τ n QA := k
theorem y_len1 {R : Prop} (h : ds.length ≤ 1000000) (k : R) : ds.length ≤ 1000000 ∧ R := ⟨h, k⟩
theorem y_B (k : we τ n fun d τ1 n1 => ∃ b, d = .bl b ∧ QB b τ1 n1) : wB we τ n QB := k
theorem y_bl {b : Bool} {R : Bool → Prop} (k : R b) : ∃ c, DV.bl b = .bl c ∧ R c := ⟨b, rfl, k⟩
theorem y_and (k : t τ n fun c τ1 n1 => if c = true then u τ1 n1 QB else QB false τ1 n1) : wAnd t u τ n QB := k
theorem y_or (k : t τ n fun c τ1 n1 => if c = true then QB true τ1 n1 else u τ1 n1 QB) : wOr t u τ n QB := k
theorem y_not (k : t τ n fun c τ1 n1 => QB (!c) τ1 n1) : wNot t τ n QB := k
theorem y_andV (k : wa τ n fun d τ1 n1 => ∃ c, d = .bl c ∧ if c = true then wb τ1 n1 Q else Q (.bl false) τ1 n1) : wAndV wa wb τ n Q := k
theorem y_orV (k : wa τ n fun d τ1 n1 => ∃ c, d = .bl c ∧ if c = true then Q (.bl true) τ1 n1 else wb τ1 n1 Q) : wOrV wa wb τ n Q := k
theorem y_notV (k : wa τ n fun d τ1 n1 => ∃ c, d = .bl c ∧ Q (.bl (!c)) τ1 n1) : wNotV wa τ n Q := k
theorem y_if (k : t τ n fun c τ1 n1 => if c = true then wa τ1 n1 Q else wb τ1 n1 Q) : wIf t wa wb τ n Q := k
theorem y_sl {w : DV → Option Int → Option Int → DP → Prop} {wl wh : Option WE} (k : wa τ n fun d τ1 n1 => wP wl τ1 n1 fun l τ2 n2 => wP wh τ2 n2 fun u τ3 n3 => w d l u fun f => Q f τ3 n3) : wSl w wa wl wh τ n Q := k
theorem y_P0 {R : Option Int → ST → Int → Prop} (k : R none τ n) : wP none τ n R := k
theorem y_P1 {R : Option Int → ST → Int → Prop} (k : we τ n fun x τ1 n1 => ∃ i, x = .int i ∧ R (some i) τ1 n1) : wP (some we) τ n R := k
theorem y_int {z : Int} {R : Int → Prop} (k : R z) : ∃ i, DV.int z = .int i ∧ R i := ⟨z, rfl, k⟩
theorem y_chain {w w' : DV → DV → DP → Prop} (k : wa τ n fun d τ1 n1 => wb τ1 n1 fun e τ2 n2 => w d e fun f => ∃ k, f = .bl k ∧ (if k = true then wc τ2 n2 fun g τ3 n3 => w' e g fun z => Q z τ3 n3 else Q (.bl false) τ2 n2)) : wChain w w' wa wb wc τ n Q := k
theorem y_call {sp : DSp} {dds : List DV} (k : wr τ n fun ds τ1 n1 => sp (ds ++ dds) n1 (fun d n2 => Q d τ1 n2) E') : wCall sp dds E' wr τ n Q := k
theorem y_meth {c m : Str} {sp : DSp} {dds : List DV} (k : wa τ n fun d τ1 n1 => ∃ ns es, d = .ins c ns es ∧ ns.contains m = false ∧ wr τ1 n1 fun ds τ2 n2 => sp (d :: (ds ++ dds)) n2 (fun f n3 => Q f τ2 n3) E') : wMeth c m sp dds E' wa wr τ n Q := k
theorem y_meth2 {c m : Str} {ns : List Str} {R : Prop} (h : ns.contains m = false) (k : R) : ∃ ns' es', DV.ins c ns ds = .ins c ns' es' ∧ ns'.contains m = false ∧ R := ⟨ns, ds, rfl, h, k⟩
theorem y_fld {f : Str} (k : wa τ n fun d τ1 n1 => ∃ c ns es x, d = .ins c ns es ∧ AtOk K c f ∧ lk ns es f = some x ∧ Q x τ1 n1) : wFld K wa f τ n Q := k
theorem y_fld2 {c f : Str} {ns : List Str} {x : DV} {R : DV → Prop} (h : AtOk K c f) (l : lk ns ds f = some x) (k : R x) : ∃ c' ns' es' x, DV.ins c ns ds = .ins c' ns' es' ∧ AtOk K c' f ∧ lk ns' es' f = some x ∧ R x := ⟨c, ns, ds, x, rfl, h, l, k⟩
theorem y_fldS {z : Addr} {c f : Str} {ns : List Str} {x : DV} (h : τ[i]? = some (some (.self z c ns ds)) ∨ τ[i]? = some (some (.d (.ins c ns ds)))) (a : AtOk K c f) (l : lk ns ds f = some x) (k : Q x τ n) : wFldS K i f τ n Q := ⟨z, c, ns, ds, x, h, a, l, k⟩
theorem y_OL (k : wo τ n fun ds τ1 n1 => Q (.lst ds) τ1 n1) : wOL wo τ n Q := k
theorem y_lc {vs : List Nat} (k : wi τ n fun ds τ1 n1 => NoOwn τ1 vs ∧ wLcGo g t we vs ds τ1 n1 QA) : wLc wi g t we vs τ n QA := k
theorem y_lcI {vs : List Nat} (I : Nat → List DV → Int → Prop) (h0 : I 0 [] n) (hs : ∀ i d acc n, ds[i]? = some d → I i acc n → g d (wipeT τ vs) fun τ1 => t τ1 n fun b τ2 n2 => wipeT τ2 vs = wipeT τ vs ∧ if b = true then we τ2 n2 fun y τ3 n3 => wipeT τ3 vs = wipeT τ vs ∧ acc.length < 1000000 ∧ I (i + 1) (acc ++ [y]) n3 else I (i + 1) acc n2)
    (hd : ∀ acc n, I ds.length acc n → QA acc τ n) : wLcGo g t we vs ds τ n QA := ⟨I, h0, hs, hd⟩
theorem y_yes (k : QB true τ n) : wYes τ n QB := k
theorem y_name (k : NxG QG (τ.set i (some (.d d)))) : wName i d τ QG := k
theorem y_gnil (k : QG τ) : wGNil [] τ QG := ⟨rfl, k⟩
theorem y_gcons (k : g d τ fun τ' => gs ds τ' QG) : wGCons g gs (d :: ds) τ QG := ⟨d, ds, rfl, k⟩
theorem y_gtup {m : Nat} (h : ds.length = m) (k : gs ds τ QG) : wGTup m gs (.tup ds) τ QG := ⟨ds, rfl, h, k⟩
theorem y_rng1 (k : wr τ n fun ds τ1 n1 => ∃ j, ds = [.int j] ∧ -1000000000000 ≤ j ∧ j ≤ 1000000000000 ∧ QA (rngD 0 j.toNat) τ1 n1) : wRng1 wr τ n QA := k
theorem y_rng1b {z : Int} {R : Int → Prop} (h0 : -1000000000000 ≤ z) (h1 : z ≤ 1000000000000) (k : R z) : ∃ j, [DV.int z] = [.int j] ∧ -1000000000000 ≤ j ∧ j ≤ 1000000000000 ∧ R j := ⟨z, rfl, h0, h1, k⟩
theorem y_zip (k : wr τ n fun ds τ1 n1 => ∃ xs ys, (ds = [.lst xs, .lst ys] ∨ ds = [.tup xs, .tup ys]) ∧ QA (zipD xs ys) τ1 n1) : wZip wr τ n QA := k
theorem y_zipL {R : List DV → List DV → Prop} (k : R xs ys) : ∃ xs' ys', ([DV.lst xs, .lst ys] = [.lst xs', .lst ys'] ∨ [DV.lst xs, .lst ys] = [.tup xs', .tup ys']) ∧ R xs' ys' := ⟨xs, ys, .inl rfl, k⟩
theorem y_iL {R : List DV → Prop} (k : R xs) : ∃ ds, DV.lst xs = .lst ds ∧ R ds := ⟨xs, rfl, k⟩
theorem y_iT {R : List DV → Prop} (k : R xs) : ∃ ds, DV.tup xs = .tup ds ∧ R ds := ⟨xs, rfl, k⟩
theorem y_lenO (h : τ[i]? = some (some (.own xs))) (k : Q (.int (xs.length : Int)) τ n) : wLenV i τ n Q := ⟨_, h, k⟩
theorem y_lenD (h : τ[i]? = some (some (.d (.lst xs)))) (k : Q (.int (xs.length : Int)) τ n) : wLenV i τ n Q := ⟨_, h, k⟩
theorem y_ixVO (h : τ[i]? = some (some (.own ys))) (k : wb τ n fun k τ1 n1 => ∃ z xs x, k = .int z ∧ (τ1[i]? = some (some (.own xs)) ∨ τ1[i]? = some (some (.d (.lst xs))) ∨ τ1[i]? = some (some (.d (.tup xs)))) ∧ atI xs z = some x ∧ Q x τ1 n1) : wIxV i wb τ n Q := ⟨⟨ys, .inl h⟩, k⟩
theorem y_ixVL (h : τ[i]? = some (some (.d (.lst ys)))) (k : wb τ n fun k τ1 n1 => ∃ z xs x, k = .int z ∧ (τ1[i]? = some (some (.own xs)) ∨ τ1[i]? = some (some (.d (.lst xs))) ∨ τ1[i]? = some (some (.d (.tup xs)))) ∧ atI xs z = some x ∧ Q x τ1 n1) : wIxV i wb τ n Q := ⟨⟨ys, .inr (.inl h)⟩, k⟩
theorem y_ixO {z : Int} {x : DV} (h : τ[i]? = some (some (.own xs))) (a : atI xs z = some x) (k : Q x τ n) : ∃ z' xs x, DV.int z = .int z' ∧ (τ[i]? = some (some (.own xs)) ∨ τ[i]? = some (some (.d (.lst xs))) ∨ τ[i]? = some (some (.d (.tup xs)))) ∧ atI xs z' = some x ∧ Q x τ n := ⟨z, xs, x, rfl, .inl h, a, k⟩
theorem y_ixD {z : Int} {x : DV} (h : τ[i]? = some (some (.d (.lst xs)))) (a : atI xs z = some x) (k : Q x τ n) : ∃ z' xs x, DV.int z = .int z' ∧ (τ[i]? = some (some (.own xs)) ∨ τ[i]? = some (some (.d (.lst xs))) ∨ τ[i]? = some (some (.d (.tup xs)))) ∧ atI xs z' = some x ∧ Q x τ n := ⟨z, xs, x, rfl, .inr (.inl h), a, k⟩
theorem y_tru {b : Bool} (k : we τ n fun d τ1 n1 => ∃ b, d.tru = some b ∧ QB b τ1 n1) : wTru we τ n QB := k
theorem y_tru1 {b : Bool} {R : Bool → Prop} (h : d.tru = some b) (k : R b) : ∃ b, d.tru = some b ∧ R b := ⟨b, h, k⟩
theorem y_listOL (k : QA xs τ n) (h : ds = [.lst xs]) : ∃ ys, (ds = [.lst ys] ∨ ds = [.tup ys]) ∧ QA ys τ n := ⟨xs, .inl h, k⟩
theorem y_listO (k : wr τ n fun ds τ1 n1 => ∃ xs, (ds = [.lst xs] ∨ ds = [.tup xs]) ∧ QA xs τ1 n1) : wListO wr τ n QA := k
theorem y_listO1 {R : List DV → Prop} (k : R xs) : ∃ ys, ([DV.lst xs] = [.lst ys] ∨ [DV.lst xs] = [.tup ys]) ∧ R ys := ⟨xs, .inl rfl, k⟩
theorem y_listO2 {R : List DV → Prop} (k : R xs) : ∃ ys, ([DV.tup xs] = [.lst ys] ∨ [DV.tup xs] = [.tup ys]) ∧ R ys := ⟨xs, .inr rfl, k⟩
theorem y_own2 {cl : Str} {sp : DSp} (k : wa τ n fun d τ1 n1 => wb τ1 n1 fun f τ2 n2 => ∃ ns es ns' es', d = .ins cl ns es ∧ f = .ins cl ns' es' ∧ sp [d, f] n2 (fun g n3 => if false = true then ∃ k, g = .bl k ∧ Q (.bl (!k)) τ2 n3 else Q g τ2 n3) E') : wOwn2 false cl sp E' wa wb τ n Q := k
theorem y_own2N {cl : Str} {sp : DSp} (k : wa τ n fun d τ1 n1 => wb τ1 n1 fun f τ2 n2 => ∃ ns es ns' es', d = .ins cl ns es ∧ f = .ins cl ns' es' ∧ sp [d, f] n2 (fun g n3 => if true = true then ∃ k, g = .bl k ∧ Q (.bl (!k)) τ2 n3 else Q g τ2 n3) E') : wOwn2 true cl sp E' wa wb τ n Q := k
theorem y_own2b {cl : Str} {ns ns' : List Str} {es es' : List DV} {R : DV → DV → Prop} (k : R (.ins cl ns es) (.ins cl ns' es')) : ∃ ms fs ms' fs', DV.ins cl ns es = .ins cl ms fs ∧ DV.ins cl ns' es' = .ins cl ms' fs' ∧ R (.ins cl ns es) (.ins cl ns' es') := ⟨_, _, _, _, rfl, rfl, k⟩
/-! data -/
theorem y_addI {a b : Int} (k : P (.int (a + b))) : wAdd (.int a) (.int b) P := k
theorem y_addL (l : xs.length + ys.length ≤ 1000000) (k : P (.lst (xs ++ ys))) : wAdd (.lst xs) (.lst ys) P := ⟨l, k⟩
theorem y_addT (l : xs.length + ys.length ≤ 1000000) (k : P (.tup (xs ++ ys))) : wAdd (.tup xs) (.tup ys) P := ⟨l, k⟩
theorem y_I0 {f : Int → Int → Int} {a b : Int} (k : P (.int (f a b))) : wI0 f (.int a) (.int b) P := k
theorem y_I {C : Int → Int → Prop} {f : Int → Int → Int} {a b : Int} (h : C a b) (k : P (.int (f a b))) : wI C f (.int a) (.int b) P := ⟨h, k⟩
theorem y_IB {f : Int → Int → Bool} {a b : Int} (k : P (.bl (f a b))) : wIB f (.int a) (.int b) P := k
theorem y_neg {a : Int} (k : P (.int (-a))) : wNeg (.int a) P := k
theorem y_ixL {z : Int} (h : atI xs z = some d) (k : P d) : wIx (.lst xs) (.int z) P := ⟨d, h, k⟩
theorem y_ixT {z : Int} (h : atI xs z = some d) (k : P d) : wIx (.tup xs) (.int z) P := ⟨d, h, k⟩
theorem y_slL {l u : Option Int} (k : P (.lst (cutD xs l u))) : wSlice (.lst xs) l u P := k
theorem y_slT {l u : Option Int} (k : P (.tup (cutD xs l u))) : wSlice (.tup xs) l u P := k
theorem y_lenL (k : P (.int (xs.length : Int))) : wLen [.lst xs] P := k
theorem y_lenT (k : P (.int (xs.length : Int))) : wLen [.tup xs] P := k
theorem y_listL (k : P (.lst xs)) : wList [.lst xs] P := k
theorem y_listT (k : P (.lst xs)) : wList [.tup xs] P := k
theorem y_tupL (k : P (.tup xs)) : wTuple [.lst xs] P := k
theorem y_tupT (k : P (.tup xs)) : wTuple [.tup xs] P := k
theorem y_intI {a : Int} (k : P (.int a)) : wInt [.int a] P := k
theorem y_abs {a : Int} (k : P (.int (a.natAbs : Int))) : wAbs [.int a] P := k
theorem y_max {a b : Int} (k : P (.int (max a b))) : wMax2 [.int a, .int b] P := k
theorem y_min {a b : Int} (k : P (.int (min a b))) : wMin2 [.int a, .int b] P := k
theorem y_all {bs : List Bool} (h : asBl xs = some bs) (k : P (.bl (bs.all id))) : wAll [.lst xs] P := ⟨bs, h, k⟩
theorem y_any {bs : List Bool} (h : asBl xs = some bs) (k : P (.bl (bs.any id))) : wAny [.lst xs] P := ⟨bs, h, k⟩
theorem y_eqI {a b : Int} (k : P (.bl (decide (a = b)))) : wEq false (.int a) (.int b) P := .inl k
theorem y_neI {a b : Int} (k : P (.bl (!decide (a = b)))) : wEq true (.int a) (.int b) P := .inl k
theorem y_eqS {a b : Str} (k : P (.bl (decide (a = b)))) : wEq false (.str a) (.str b) P := .inl k
theorem y_neS {a b : Str} (k : P (.bl (!decide (a = b)))) : wEq true (.str a) (.str b) P := .inl k
theorem y_eqB {a b : Bool} (k : P (.bl (a == b))) : wEq false (.bl a) (.bl b) P := .inl k
theorem y_neB {a b : Bool} (k : P (.bl (!(a == b)))) : wEq true (.bl a) (.bl b) P := .inl k
theorem y_eqD {x y : PyData} {b : Bool} (h1 : toPy d = some x) (h2 : toPy e = some y) (s1 : SeqAt.shaped x = true) (s2 : SeqAt.shaped y = true) (hb : PyData.eqv x y = b) (k : P (.bl b)) : wEq false d e P := .inr ⟨x, y, h1, h2, s1, s2, by rw [hb]; exact k⟩
theorem y_neD {x y : PyData} {b : Bool} (h1 : toPy d = some x) (h2 : toPy e = some y) (s1 : SeqAt.shaped x = true) (s2 : SeqAt.shaped y = true) (hb : PyData.eqv x y = b) (k : P (.bl (!b))) : wEq true d e P := .inr ⟨x, y, h1, h2, s1, s2, by rw [hb]; exact k⟩
/-! comprehensions -/
def noOwnB (τ : ST) (vs : List Nat) : Bool := vs.all fun i => match τ[i]? with
  | some (some (.d _)) => true
  | some none => true
  | none => true
  | _ => false
theorem noOwn_of {vs : List Nat} (h : noOwnB τ vs = true) : NoOwn τ vs := fun i hi s hs => by
  have := List.all_eq_true.mp h i hi
  simp only [hs] at this
  cases s with
  | d x => exact ⟨x, rfl⟩
  | _ => cases this
theorem y_noOwn {vs : List Nat} {R : Prop} (h : noOwnB τ vs = true) (k : R) : NoOwn τ vs ∧ R := ⟨noOwn_of h, k⟩
theorem y_wipe {vs : List Nat} {τ2 : ST} {R : Prop} (h : wipeT τ2 vs = wipeT τ vs) (k : R) : wipeT τ2 vs = wipeT τ vs ∧ R := ⟨h, k⟩
theorem y_acc {acc : List DV} {R : Prop} (h : acc.length < 1000000) (k : R) : acc.length < 1000000 ∧ R := ⟨h, k⟩
theorem y_lcMap {vs : List Nat} (f : DV → DV) (hl : ds.length ≤ 1000000) (hs : ∀ (i : Nat) d acc (R : List DV → Int → Prop), ds[i]? = some d → acc.length < 1000000 → R (acc ++ [f d]) n → g d (wipeT τ vs) fun τ1 => t τ1 n fun b τ2 n2 => wipeT τ2 vs = wipeT τ vs ∧
    if b = true then we τ2 n2 fun y τ3 n3 => wipeT τ3 vs = wipeT τ vs ∧ acc.length < 1000000 ∧ R (acc ++ [y]) n3 else R acc n2) (k : QA (ds.map f) τ n) : wLcGo g t we vs ds τ n QA := by
  refine ⟨fun i acc n' => n' = n ∧ acc = (ds.take i).map f, ⟨rfl, rfl⟩, fun i d acc n' hd ⟨e1, e2⟩ => ?_, fun acc n' ⟨e1, e2⟩ => ?_⟩
  · subst e1
    have hi : i < ds.length := (List.getElem?_eq_some_iff.mp hd).1
    have hacc : acc.length < 1000000 := by rw [e2, List.length_map, List.length_take]; omega
    refine hs i d acc (fun a m => m = n' ∧ a = (ds.take (i + 1)).map f) hd hacc ⟨rfl, ?_⟩
    rw [e2, List.take_succ, hd, List.map_append]
    rfl
  · subst e1
    rw [List.take_length] at e2
    rw [e2]
    exact k
theorem y_lcFM {vs : List Nat} (p : DV → Bool) (f : DV → DV) (hl : ds.length ≤ 1000000) (hs : ∀ (i : Nat) d acc (R : List DV → Int → Prop), ds[i]? = some d → acc.length < 1000000 → (p d = true → R (acc ++ [f d]) n) → (p d = false → R acc n) → g d (wipeT τ vs) fun τ1 => t τ1 n fun b τ2 n2 => wipeT τ2 vs = wipeT τ vs ∧
    if b = true then we τ2 n2 fun y τ3 n3 => wipeT τ3 vs = wipeT τ vs ∧ acc.length < 1000000 ∧ R (acc ++ [y]) n3 else R acc n2) (k : QA ((ds.filter p).map f) τ n) : wLcGo g t we vs ds τ n QA := by
  refine ⟨fun i acc n' => n' = n ∧ acc = ((ds.take i).filter p).map f, ⟨rfl, rfl⟩, fun i d acc n' hd ⟨e1, e2⟩ => ?_, fun acc n' ⟨e1, e2⟩ => ?_⟩
  · subst e1
    have hi : i < ds.length := (List.getElem?_eq_some_iff.mp hd).1
    have hacc : acc.length < 1000000 := by
      rw [e2, List.length_map]
      refine Nat.lt_of_le_of_lt (List.length_filter_le ..) ?_
      rw [List.length_take]
      omega
    refine hs i d acc (fun a m => m = n' ∧ a = ((ds.take (i + 1)).filter p).map f) hd hacc (fun hp => ⟨rfl, ?_⟩) fun hp => ⟨rfl, ?_⟩
    · rw [e2, List.take_succ, hd, List.filter_append, List.map_append]
      simp [hp]
    · rw [e2, List.take_succ, hd, List.filter_append, List.map_append]
      simp [hp]
  · subst e1
    rw [List.take_length] at e2
    rw [e2]
    exact k
end
end VF
/-! macros: v (steps of the readings by data) -/
local macro_rules | `(tactic| walk_at "vset") => `(tactic| first | (simp only [List.set_cons_succ, List.set_cons_zero]; done) | (simp only [List.set_cons_succ, List.set_cons_zero]; rfl) | rfl)
local macro_rules | `(tactic| walk_at "vn") => `(tactic| first | ((with_reducible apply VF.y_nx); ((first | (simp only [List.set_cons_succ, List.set_cons_zero]; done) | (simp only [List.set_cons_succ, List.set_cons_zero]; rfl) | rfl))) | ((with_reducible apply VF.y_nxG); ((first | (simp only [List.set_cons_succ, List.set_cons_zero]; done) | (simp only [List.set_cons_succ, List.set_cons_zero]; rfl) | rfl))))
local macro_rules | `(tactic| walk_at "v1") => `(tactic| (with_reducible first | refine' VF.y_seq ?_ | refine' VF.y_next ?_ | refine' VF.y_set ?_ | refine' VF.y_setO ?_ | refine' VF.y_asg ?_ | refine' VF.y_par ?_ | refine' VF.y_par2 ?_ | refine' VF.y_parO1 ?_ | refine' VF.y_parO2 ?_ | refine' VF.y_ret ?_ | refine' VF.y_retN ?_ | refine' VF.y_ifS ?_ | refine' VF.y_drop ?_ | refine' VF.y_brk ?_ | refine' VF.y_cnt ?_ | refine' VF.y_setI ?_ | refine' VF.y_for ?_ | refine' VF.y_raise ?_ | refine' VF.y_c ?_ | refine' VF.y_op ?_ | refine' VF.y_un ?_ | refine' VF.y_nil ?_ | refine' VF.y_cons ?_ | refine' VF.y_cb ?_ | refine' VF.y_tup ?_ | refine' VF.y_lst ?_ | refine' VF.y_lstO ?_ | refine' VF.y_B ?_ | refine' VF.y_bl ?_ | refine' VF.y_and ?_ | refine' VF.y_or ?_ | refine' VF.y_not ?_ | refine' VF.y_andV ?_ | refine' VF.y_orV ?_ | refine' VF.y_notV ?_ | refine' VF.y_if ?_ | refine' VF.y_sl ?_ | refine' VF.y_P0 ?_ | refine' VF.y_P1 ?_ | refine' VF.y_int ?_ | refine' VF.y_chain ?_ | refine' VF.y_call ?_ | refine' VF.y_meth ?_ | refine' VF.y_fld ?_ | refine' VF.y_OL ?_ | refine' VF.y_lc ?_ | refine' VF.y_yes ?_ | refine' VF.y_name ?_ | refine' VF.y_gnil ?_ | refine' VF.y_gcons ?_ | refine' VF.y_rng1 ?_ | refine' VF.y_zip ?_ | refine' VF.y_zipL ?_ | refine' VF.y_iL ?_ | refine' VF.y_iT ?_ | refine' VF.y_tru (b := true) ?_ | refine' VF.y_listO ?_ | refine' VF.y_listO1 ?_ | refine' VF.y_listO2 ?_ | refine' VF.y_own2 ?_ | refine' VF.y_own2N ?_ | refine' VF.y_own2b ?_ | refine' VF.y_addI ?_ | refine' VF.y_I0 ?_ | refine' VF.y_IB ?_ | refine' VF.y_neg ?_ | refine' VF.y_slL ?_ | refine' VF.y_slT ?_ | refine' VF.y_lenL ?_ | refine' VF.y_lenT ?_ | refine' VF.y_listL ?_ | refine' VF.y_listT ?_ | refine' VF.y_tupL ?_ | refine' VF.y_tupT ?_ | refine' VF.y_intI ?_ | refine' VF.y_abs ?_ | refine' VF.y_max ?_ | refine' VF.y_min ?_ | refine' VF.y_eqI ?_ | refine' VF.y_neI ?_ | refine' VF.y_eqS ?_ | refine' VF.y_neS ?_ | refine' VF.y_eqB ?_ | refine' VF.y_neB ?_ | refine' BF.x_iteY ?_ | refine' BF.x_iteNo ?_))
local macro_rules | `(tactic| walk_at "v2") => `(tactic| first | ((with_reducible apply VF.y_var); (with_unfolding_all rfl)) | ((with_reducible apply VF.y_varF); (with_unfolding_all rfl)) | ((with_reducible apply VF.y_varO); (with_unfolding_all rfl)) | ((with_reducible apply VF.y_ixL); (with_unfolding_all rfl)) | ((with_reducible apply VF.y_ixT); (with_unfolding_all rfl)) | ((with_reducible apply VF.y_gtup); (with_unfolding_all rfl)) | ((with_reducible apply VF.y_len1); (simp only [List.length_cons, List.length_nil]; omega)) | ((with_reducible apply VF.y_I); ((first | ((with_reducible refine BF.cpow_of ?_ ?_ ?_ ?_) <;> omega) | ((with_reducible refine BF.cmul_of ?_ ?_ ?_ ?_) <;> omega) | ((with_reducible refine BF.cdiv_of ?_ ?_) <;> omega) | (show (0 : Int) < _; omega)))) | ((with_reducible apply VF.y_rng1b); omega; omega) | ((with_reducible apply VF.y_lenO); (with_unfolding_all rfl)) | ((with_reducible apply VF.y_lenD); (with_unfolding_all rfl)) | ((with_reducible apply VF.y_ixVO); (with_unfolding_all rfl)) | ((with_reducible apply VF.y_ixVL); (with_unfolding_all rfl)) | ((with_reducible apply VF.y_app); (with_unfolding_all rfl)) | ((with_reducible apply VF.y_ins); (with_unfolding_all rfl)) | ((with_reducible apply VF.y_setI1); (with_unfolding_all rfl)) | ((with_reducible apply VF.y_fld2); (assumption); (with_unfolding_all rfl)) | ((with_reducible apply VF.y_noOwn); (with_unfolding_all rfl)) | ((with_reducible apply VF.y_wipe); (with_unfolding_all rfl)) | ((with_reducible apply VF.y_acc); (assumption)) | ((with_reducible apply VF.y_tru1); (with_unfolding_all rfl)))
local macro_rules | `(tactic| walk_at "vin") => `(tactic| (dsimp only [VF.startT, List.map, List.append_eq, List.append, HAppend.hAppend, Append.append, List.length_cons, List.length_nil, List.cons_append, List.nil_append, List.replicate_succ, List.replicate_zero, Nat.reduceAdd, Nat.reduceSub, List.append_nil, Nat.zero_add]))
local macro_rules | `(tactic| walk_at "v") => `(tactic| repeat (first | ((with_reducible first | refine' VF.y_seq ?_ | refine' VF.y_next ?_ | refine' VF.y_set ?_ | refine' VF.y_setO ?_ | refine' VF.y_asg ?_ | refine' VF.y_par ?_ | refine' VF.y_par2 ?_ | refine' VF.y_parO1 ?_ | refine' VF.y_parO2 ?_ | refine' VF.y_ret ?_ | refine' VF.y_retN ?_ | refine' VF.y_ifS ?_ | refine' VF.y_drop ?_ | refine' VF.y_brk ?_ | refine' VF.y_cnt ?_ | refine' VF.y_setI ?_ | refine' VF.y_for ?_ | refine' VF.y_raise ?_ | refine' VF.y_c ?_ | refine' VF.y_op ?_ | refine' VF.y_un ?_ | refine' VF.y_nil ?_ | refine' VF.y_cons ?_ | refine' VF.y_cb ?_ | refine' VF.y_tup ?_ | refine' VF.y_lst ?_ | refine' VF.y_lstO ?_ | refine' VF.y_B ?_ | refine' VF.y_bl ?_ | refine' VF.y_and ?_ | refine' VF.y_or ?_ | refine' VF.y_not ?_ | refine' VF.y_andV ?_ | refine' VF.y_orV ?_ | refine' VF.y_notV ?_ | refine' VF.y_if ?_ | refine' VF.y_sl ?_ | refine' VF.y_P0 ?_ | refine' VF.y_P1 ?_ | refine' VF.y_int ?_ | refine' VF.y_chain ?_ | refine' VF.y_call ?_ | refine' VF.y_meth ?_ | refine' VF.y_fld ?_ | refine' VF.y_OL ?_ | refine' VF.y_lc ?_ | refine' VF.y_yes ?_ | refine' VF.y_name ?_ | refine' VF.y_gnil ?_ | refine' VF.y_gcons ?_ | refine' VF.y_rng1 ?_ | refine' VF.y_zip ?_ | refine' VF.y_zipL ?_ | refine' VF.y_iL ?_ | refine' VF.y_iT ?_ | refine' VF.y_tru (b := true) ?_ | refine' VF.y_listO ?_ | refine' VF.y_listO1 ?_ | refine' VF.y_listO2 ?_ | refine' VF.y_own2 ?_ | refine' VF.y_own2N ?_ | refine' VF.y_own2b ?_ | refine' VF.y_addI ?_ | refine' VF.y_I0 ?_ | refine' VF.y_IB ?_ | refine' VF.y_neg ?_ | refine' VF.y_slL ?_ | refine' VF.y_slT ?_ | refine' VF.y_lenL ?_ | refine' VF.y_lenT ?_ | refine' VF.y_listL ?_ | refine' VF.y_listT ?_ | refine' VF.y_tupL ?_ | refine' VF.y_tupT ?_ | refine' VF.y_intI ?_ | refine' VF.y_abs ?_ | refine' VF.y_max ?_ | refine' VF.y_min ?_ | refine' VF.y_eqI ?_ | refine' VF.y_neI ?_ | refine' VF.y_eqS ?_ | refine' VF.y_neS ?_ | refine' VF.y_eqB ?_ | refine' VF.y_neB ?_ | refine' BF.x_iteY ?_ | refine' BF.x_iteNo ?_)) | (first | ((with_reducible apply VF.y_nx); ((first | (simp only [List.set_cons_succ, List.set_cons_zero]; done) | (simp only [List.set_cons_succ, List.set_cons_zero]; rfl) | rfl))) | ((with_reducible apply VF.y_nxG); ((first | (simp only [List.set_cons_succ, List.set_cons_zero]; done) | (simp only [List.set_cons_succ, List.set_cons_zero]; rfl) | rfl)))) | (first | ((with_reducible apply VF.y_var); (with_unfolding_all rfl)) | ((with_reducible apply VF.y_varF); (with_unfolding_all rfl)) | ((with_reducible apply VF.y_varO); (with_unfolding_all rfl)) | ((with_reducible apply VF.y_ixL); (with_unfolding_all rfl)) | ((with_reducible apply VF.y_ixT); (with_unfolding_all rfl)) | ((with_reducible apply VF.y_gtup); (with_unfolding_all rfl)) | ((with_reducible apply VF.y_len1); (simp only [List.length_cons, List.length_nil]; omega)) | ((with_reducible apply VF.y_I); ((first | ((with_reducible refine BF.cpow_of ?_ ?_ ?_ ?_) <;> omega) | ((with_reducible refine BF.cmul_of ?_ ?_ ?_ ?_) <;> omega) | ((with_reducible refine BF.cdiv_of ?_ ?_) <;> omega) | (show (0 : Int) < _; omega)))) | ((with_reducible apply VF.y_rng1b); omega; omega) | ((with_reducible apply VF.y_lenO); (with_unfolding_all rfl)) | ((with_reducible apply VF.y_lenD); (with_unfolding_all rfl)) | ((with_reducible apply VF.y_ixVO); (with_unfolding_all rfl)) | ((with_reducible apply VF.y_ixVL); (with_unfolding_all rfl)) | ((with_reducible apply VF.y_app); (with_unfolding_all rfl)) | ((with_reducible apply VF.y_ins); (with_unfolding_all rfl)) | ((with_reducible apply VF.y_setI1); (with_unfolding_all rfl)) | ((with_reducible apply VF.y_fld2); (assumption); (with_unfolding_all rfl)) | ((with_reducible apply VF.y_noOwn); (with_unfolding_all rfl)) | ((with_reducible apply VF.y_wipe); (with_unfolding_all rfl)) | ((with_reducible apply VF.y_acc); (assumption)) | ((with_reducible apply VF.y_tru1); (with_unfolding_all rfl))) | (first | with_reducible refine' BF.x_iteT (by with_unfolding_all rfl) ?_ | with_reducible refine' BF.x_iteF (by with_unfolding_all rfl) ?_ | with_reducible refine' BF.x_iteT (decide_eq_true rfl) ?_)))
/-! ## Comprehensions over told lists; what is compared -/
namespace VF
open PySem PySem.Spec PyProof.Rows L2
section
variable {τ : ST} {n : Int} {QA : List DV → ST → Int → Prop} {t : WT} {g : WG} {we : WE} {ds : List DV} {α β : Type}
theorem y_lcA {vs : List Nat} (as : List α) (gD : α → DV) (f : α → DV) (e : ds = as.map gD) (hl : as.length ≤ 1000000) (hs : ∀ (i : Nat) a acc (R : List DV → Int → Prop), as[i]? = some a → acc.length < 1000000 → R (acc ++ [f a]) n → g (gD a) (wipeT τ vs) fun τ1 => t τ1 n fun b τ2 n2 => wipeT τ2 vs = wipeT τ vs ∧
    if b = true then we τ2 n2 fun y τ3 n3 => wipeT τ3 vs = wipeT τ vs ∧ acc.length < 1000000 ∧ R (acc ++ [y]) n3 else R acc n2) (k : QA (as.map f) τ n) : wLcGo g t we vs ds τ n QA := by
  subst e
  refine ⟨fun i acc n' => n' = n ∧ acc = (as.take i).map f, ⟨rfl, rfl⟩, fun i d acc n' hd ⟨e1, e2⟩ => ?_, fun acc n' ⟨e1, e2⟩ => ?_⟩
  · subst e1
    rw [List.getElem?_map] at hd
    obtain ⟨a, ha, rfl⟩ := Option.map_eq_some_iff.mp hd
    have hi : i < as.length := (List.getElem?_eq_some_iff.mp ha).1
    have hacc : acc.length < 1000000 := by rw [e2, List.length_map, List.length_take]; omega
    refine hs i a acc (fun a m => m = n' ∧ a = (as.take (i + 1)).map f) ha hacc ⟨rfl, ?_⟩
    rw [e2, List.take_succ, ha, List.map_append]
    rfl
  · subst e1
    rw [List.length_map, List.take_length] at e2
    rw [e2]
    exact k
theorem y_lcAF {vs : List Nat} (as : List α) (gD : α → DV) (p : α → Bool) (f : α → DV) (e : ds = as.map gD) (hl : as.length ≤ 1000000) (hs : ∀ (i : Nat) a acc (R : List DV → Int → Prop), as[i]? = some a → acc.length < 1000000 → (p a = true → R (acc ++ [f a]) n) → (p a = false → R acc n) → g (gD a) (wipeT τ vs) fun τ1 => t τ1 n fun b τ2 n2 => wipeT τ2 vs = wipeT τ vs ∧
    if b = true then we τ2 n2 fun y τ3 n3 => wipeT τ3 vs = wipeT τ vs ∧ acc.length < 1000000 ∧ R (acc ++ [y]) n3 else R acc n2) (k : QA ((as.filter p).map f) τ n) : wLcGo g t we vs ds τ n QA := by
  subst e
  refine ⟨fun i acc n' => n' = n ∧ acc = ((as.take i).filter p).map f, ⟨rfl, rfl⟩, fun i d acc n' hd ⟨e1, e2⟩ => ?_, fun acc n' ⟨e1, e2⟩ => ?_⟩
  · subst e1
    rw [List.getElem?_map] at hd
    obtain ⟨a, ha, rfl⟩ := Option.map_eq_some_iff.mp hd
    have hi : i < as.length := (List.getElem?_eq_some_iff.mp ha).1
    have hacc : acc.length < 1000000 := by
      rw [e2, List.length_map]
      refine Nat.lt_of_le_of_lt (List.length_filter_le ..) ?_
      rw [List.length_take]
      omega
    refine hs i a acc (fun a m => m = n' ∧ a = ((as.take (i + 1)).filter p).map f) ha hacc (fun hp => ⟨rfl, ?_⟩) fun hp => ⟨rfl, ?_⟩
    · rw [e2, List.take_succ, ha, List.filter_append, List.map_append]
      simp [hp]
    · rw [e2, List.take_succ, ha, List.filter_append, List.map_append]
      simp [hp]
  · subst e1
    rw [List.length_map, List.take_length] at e2
    rw [e2]
    exact k
theorem zipD_map {as : List α} {bs : List β} {f : α → DV} {h : β → DV} : zipD (as.map f) (bs.map h) = (as.zip bs).map fun p => .tup [f p.1, h p.2] := by
  unfold zipD
  rw [List.zipWith_map, List.zip_eq_zipWith, List.map_zipWith]
theorem rngD_map {lo : Int} {k : Nat} : rngD lo k = (List.range k).map fun (i : Nat) => DV.int (lo + (i : Int)) := rfl
theorem toPyL_map {as : List α} {f : α → DV} {h : α → PyData} (e : ∀ a ∈ as, toPy (f a) = some (h a)) : toPyL (as.map f) = some (as.map h) := by
  induction as with
  | nil => rfl
  | cons a as ih =>
    rw [List.map_cons, List.map_cons]
    simp only [toPyL]
    rw [e a List.mem_cons_self, ih fun x hx => e x (List.mem_cons_of_mem _ hx)]
theorem toPy_lst {as : List α} {f : α → DV} {h : α → PyData} (e : ∀ a ∈ as, toPy (f a) = some (h a)) : toPy (.lst (as.map f)) = some (.list (as.map h)) := by
  simp only [toPy]
  rw [toPyL_map e]
  rfl
theorem eqvAll_ints (xs ys : List Int) : PyData.eqvAll (xs.map .int) (ys.map .int) = decide (xs = ys) := by
  induction xs generalizing ys with
  | nil => cases ys <;> simp [PyData.eqvAll]
  | cons x xs ih =>
    cases ys with
    | nil => simp [PyData.eqvAll]
    | cons y ys =>
      simp only [List.map_cons, PyData.eqvAll, PyData.eqv, ih, List.cons.injEq]
      have e : (x == y) = decide (x = y) := by by_cases h : x = y <;> simp [h]
      rw [Bool.decide_and, e]
/-- how deep, and that it can be laid -/
def Sh (k : Nat) (x : PyData) : Prop := x.canLay0 = true ∧ x.depth ≤ k
theorem Sh.int {k : Nat} {i : Int} : Sh k (.int i) := ⟨rfl, Nat.zero_le _⟩
theorem Sh.bool {k : Nat} {i : Bool} : Sh k (.bool i) := ⟨rfl, Nat.zero_le _⟩
theorem Sh.none {k : Nat} : Sh k .none := ⟨rfl, Nat.zero_le _⟩
theorem Sh.str {k : Nat} {z : Str} (h : (PyData.str z).canLay0 = true) : Sh k (.str z) := ⟨h, Nat.zero_le _⟩
theorem sh_all {k : Nat} {xs : List PyData} (h : ∀ x ∈ xs, Sh k x) : PyData.canLayAll0 xs = true ∧ PyData.depthAll xs ≤ k := by
  induction xs with
  | nil => exact ⟨rfl, Nat.zero_le _⟩
  | cons x xs ih =>
    obtain ⟨h1, h2⟩ := ih fun y hy => h y (List.mem_cons_of_mem _ hy)
    obtain ⟨k1, k2⟩ := h x List.mem_cons_self
    exact ⟨by simp [PyData.canLayAll0, h1, k1], by simp only [PyData.depthAll]; omega⟩
theorem Sh.list {k : Nat} {xs : List PyData} (h : ∀ x ∈ xs, Sh k x) : Sh (k + 1) (.list xs) := by
  obtain ⟨h1, h2⟩ := sh_all h
  exact ⟨by simpa [PyData.canLay0] using h1, by simp only [PyData.depth]; omega⟩
theorem Sh.tuple {k : Nat} {xs : List PyData} (h : ∀ x ∈ xs, Sh k x) : Sh (k + 1) (.tuple xs) := by
  obtain ⟨h1, h2⟩ := sh_all h
  exact ⟨by simpa [PyData.canLay0] using h1, by simp only [PyData.depth]; omega⟩
theorem Sh.ok {k : Nat} {x : PyData} (h : Sh k x) (l : k ≤ 64) : SeqAt.shaped x = true := by
  unfold SeqAt.shaped
  rw [h.1, Bool.true_and]
  exact decide_eq_true (Nat.le_trans h.2 l)
theorem eqvAll_nil (xs : List PyData) : PyData.eqvAll xs [] = xs.isEmpty := by cases xs <;> simp [PyData.eqvAll]
end
end VF
/-! ## Defs that return a new list of their own -/
namespace VF
open PySem PySem.Spec PyProof.Rows L2
/-- nothing but a table stands at p -/
def NewA (H : Hp) (p : Addr) : Prop := ∀ o, H p = some o → ∃ ps, o = .tbl ps
section
variable {K : PySem.W.Frag} {b p a : Addr} {M M' : List Addr} {H H' : Hp} {vs : List V} {O : Om}
theorem NewA.ne {o : HO} (hp : NewA H p) (h : H a = some o) (t : ∀ ps, o ≠ .tbl ps) : a ≠ p := fun z => by
  obtain ⟨ps, e⟩ := hp o (z ▸ h)
  exact t ps e
theorem LsM.freshT (h : LsM K M H a vs) (hp : NewA H p) : LsM K (p :: M) H a vs := ⟨h.1, fun z => (List.mem_cons.mp z).elim (hp.ne h.1 nofun) h.2⟩
theorem TsM.freshT (h : TsM K M H a vs) (hp : NewA H p) : TsM K (p :: M) H a vs := ⟨h.1, fun z H' => by
  rcases List.mem_cons.mp z with rfl | z
  · rcases h.1 with (q | ⟨o, q⟩) | q
    · exact absurd rfl (hp.ne q nofun)
    · exact absurd rfl (hp.ne q nofun)
    · exact .inr q
  · exact h.2 z H'⟩
mutual
theorem Dat.freshT (hp : NewA H p) : ∀ {v : V} {d : DV}, Dat K b M H v d → Dat K b (p :: M) H v d
  | _, _, .non => .non
  | _, _, .bl x => .bl x
  | _, _, .int i => .int i
  | _, _, .str x => .str x
  | _, _, .lst h l => .lst (h.freshT hp) (DatL.freshT hp l)
  | _, _, .tup h l => .tup (h.freshT hp) (DatL.freshT hp l)
  | _, _, .tupz h d n l => .tupz h d (fun q => (List.mem_cons.mp q).elim (hp.ne h nofun) n) (DatL.freshT hp l)
  | _, _, .ins h n z l => .ins h (fun q => (List.mem_cons.mp q).elim (hp.ne h nofun) n) z (DatL.freshT hp l)
  | _, _, .exc h h2 n n2 z l => .exc h h2 (fun q => (List.mem_cons.mp q).elim (hp.ne h nofun) n) (fun q => (List.mem_cons.mp q).elim (hp.ne h2 nofun) n2) z (DatL.freshT hp l)
  | _, _, .bag => .bag
  | _, _, .ty n => .ty n
  | _, _, .cls c => .cls c
theorem DatL.freshT (hp : NewA H p) : ∀ {vs : List V} {ds : List DV}, DatL K b M H vs ds → DatL K b (p :: M) H vs ds
  | _, _, .nil => .nil
  | _, _, .cons h l => .cons (Dat.freshT hp h) (DatL.freshT hp l)
end
theorem GhOk.freshT {g : Gh} (h : GhOk K b O M H g) (hp : NewA H p) : GhOk K b O (p :: M) H g := by
  cases g with
  | d v x => exact Dat.freshT hp h
  | dl vs ds => exact DatL.freshT hp h
  | l a vs ds => exact ⟨h.1.freshT hp, DatL.freshT hp h.2⟩
  | t a vs ds => exact ⟨h.1.freshT hp, DatL.freshT hp h.2⟩
  | o j a vs ds => exact ⟨h.1, h.2.1, h.2.2.1, DatL.freshT hp h.2.2.2⟩
theorem SlOk.freshT {i : Nat} {v : V} {s : SV} (h : SlOk K b O M H i v s) (hp : NewA H p) : SlOk K b O (p :: M) H i v s := by
  cases s with
  | d x => exact Dat.freshT hp h
  | own xs =>
    obtain ⟨a, vs, e1, e2, e3, e4⟩ := h
    exact ⟨a, vs, e1, e2, e3, DatL.freshT hp e4⟩
  | self z c ns ds =>
    obtain ⟨dx, vs, e1, e2, e3, e4, e5⟩ := h
    exact ⟨dx, vs, e1, e2, e3, e4, DatL.freshT hp e5⟩
  | fix vs xs =>
    obtain ⟨a, e1, e2, e3⟩ := h
    exact ⟨a, e1, e2.freshT hp, DatL.freshT hp e3⟩
theorem Rel.freshT {W : Wc} {Γ : List Gh} {τ : ST} {n : Int} {σ : L2.St} (r : Rel K W Γ O [] τ n σ H) (hp : NewA H p) : Rel K W Γ O [p] τ n σ H :=
  ⟨r.len, r.few, fun i s hs => by
    obtain ⟨v, hv, k⟩ := r.slot i s hs
    exact ⟨v, hv, k.freshT hp⟩, fun g hg => (r.gh g hg).freshT hp, r.nd, r.own, r.ext, r.bag, r.bag0, r.tab, r.al, r.al0, r.mdb⟩
/-- what a def that returns a new list promises by data -/
def liftSpF (K : PySem.W.Frag) (Cs : Cf → Prop) (sp : DSp) : Sp := fun vs H Q E => ∃ (C : Cf) (M : List Addr) (n : Int) (ds : List DV) (Q' : DV → Int → Prop) (E' : XV), Cs C ∧ C.b ∈ M ∧ AlN M H ∧ C.B H n ∧ LamX.Tabs C.T H ∧ DatL K C.b M H vs ds ∧ sp ds n Q' E' ∧
  (∀ a us H' es n', Post C M H H' n' → NewA H a → a ∉ M → a ∉ C.bx → H' a = some (.lst us) → DatL K C.b (a :: M) H' us es → Q' (.lst es) n' → Q (.ref a) H') ∧
  (∀ c ns ws es dd H' n', Post C M H H' n' → H' dd = some (.xd (ns.zip ws)) → ns.length = ws.length → DatL K C.b M H' ws es → E' c ns es n' → E (.ref (He.ga K c)) (some dd) H')
theorem liftSpF.to {Cs : Cf → Prop} {sp : DSp} {vs : List V} {Q : VK} {E : XK} (h : liftSp K Cs sp vs H Q E) : liftSpF K Cs sp vs H Q E := by
  obtain ⟨C, M, n, ds, Q', E', hC, hb, al, bag, tab, hd, hsp, hQ, hE⟩ := h
  exact ⟨C, M, n, ds, Q', E', hC, hb, al, bag, tab, hd, hsp, fun a us H' es n' p _ nm _ h1 h2 q => hQ _ H' _ n' p (.lst (LsM.of h1 nm) (DatL.sub (fun x hx => List.mem_cons_of_mem _ hx) h2)) q, hE⟩
end
section
variable {K : PySem.W.Frag} {W : Wc} {X : Cx} {e : Expr} {wr : WA} {st : Stmt} {rest : List Stmt} {ws wt : WS} {Cs : Cf → Prop}
def wCallO (sp : DSp) (dds : List DV) (E' : XV) (wr : WA) : WA := fun τ n Q => wr τ n fun ds τ1 n1 => sp (ds ++ dds) n1 (fun d n2 => ∃ es, d = .lst es ∧ Q es τ1 n2) E'
theorem y_callO {sp : DSp} {dds : List DV} {E' : XV} {τ : ST} {n : Int} {Q : List DV → ST → Int → Prop} (k : wr τ n fun ds τ1 n1 => sp (ds ++ dds) n1 (fun d n2 => ∃ es, d = .lst es ∧ Q es τ1 n2) E') : wCallO sp dds E' wr τ n Q := k
theorem vo_callF {sp : DSp} {dvs : List V} {dds : List DV} {E' : XV} {E : XK} (hC : Cs W.toCf) (hE : ELinkG K W E' E) (h : PE X e (tCall (liftSpF K Cs sp) dvs E (liftA K W wr))) (hdv : ∀ b M H, DatL K b M H dvs dds) : PE X e (liftO K W (wCallO sp dds E' wr)) := by
  refine BF.PE.imp h fun σ H Q ⟨Γ, O, τ, n, Q', q, hw, k⟩ => ?_
  refine ⟨Γ, O, τ, n, _, q, hw, fun vs H1 ds O1 τ1 n1 q1 d1 hw1 => ?_⟩
  refine ⟨W.toCf, ad O1 ++ W.M0, n1, _, _, E', hC, List.mem_append_right _ W.bm, q1.al, q1.bag, q1.tab, DatL.app d1 (hdv _ _ _), hw1, fun a us H' es n' p na nm nx h1 h2 ⟨es', ee, hq⟩ => ?_, fun c ns ws es dd H' n' p h1 h2 h3 h4 => ?_⟩
  · cases ee
    have q2 := post_rel (q1.freshT na) p
    refine k a us H' es O1 τ1 n' q2 h1 nm ⟨fun o ho => ?_, fun z => nm (List.mem_append_right _ z), nx⟩ h2 hq
    by_cases hm : a ∈ W.Md
    · exact .inl hm
    · refine .inr (Classical.byContradiction fun ht => ?_)
      have t : ∀ ps, o ≠ .tbl ps := fun ps z => ht ⟨ps, z⟩
      obtain ⟨ps, z⟩ := na o (q1.ext a o hm ho t)
      exact t ps z
  · exact hE c ns ws es dd H' n' (q1.ext.tr (p.ey.sub fun x hx => by rw [List.mem_singleton.mp hx]; exact W.bd)) (fun x hx => p.al x (sub_M0 x hx)) p.bag p.tab h1 h2 (DatL.sub sub_M0 h3) h4
/-- statements, then the slot i is returned -/
def liftSR (K : PySem.W.Frag) (W : Wc) (i : Nat) (w : WS) : TS := fun D σ H => liftS K W w { D with nx := fun σ' H' => ∃ v, σ'[i]? = some (some v) ∧ D.rt v H' } σ H
theorem vsr_one {i : Nat} (h : PS X st (tRet (tVar i))) : PSs X [st] (liftSR K W i wNext) := pss_one (BF.PS.imp' h fun D σ H ⟨Γ, O, τ, n, D', q, hw, l⟩ => l.nx σ H τ n O q hw)
theorem vsr_cons {i : Nat} (h1 : PS X st (liftS K W ws)) (h2 : PSs X rest (liftSR K W i wt)) : PSs X (st :: rest) (liftSR K W i (wSeq ws wt)) := PSs.imp (pss_cons h1 h2) fun D σ H ⟨Γ, O, τ, n, D', q, hw, l⟩ =>
  ⟨Γ, O, τ, n, _, q, hw, ⟨fun σ' H' τ' n' O' q' hq => ⟨Γ, O', τ', n', D', q', hq, l⟩, l.bk, l.ct, l.rt⟩⟩
theorem v_okF {P : Program} {w : World} {mg : Str → Option Value} {base : Heap} {sp : DSp} {x qual : Str} {params : Arguments} {body : List Stmt} {scope : Scope} {dvs : List V} {kws : List (Str × V)} {f : Addr} {fd : FuncData} {N ps : List Str} {k : Nat}
    (F : FunD K x qual params body scope dvs kws f fd) (S : FnScope N ps scope) (hN : N.length < 1000000) (hp : ps.length ≤ N.length) (hlen : ∀ ds n Q E, sp ds n Q E → ds.length = ps.length) (i : Nat)
    (hbody : ∀ (cdv : Value) (A : Around) (outer : List Env) (s : Shared) (H : Hp) (W : Wc) (ds : List DV) (n : Int) (Q' : DV → Int → Prop), Cs W.toCf → ELink K W → Room k (A.deeper (envOfC qual scope s.heap.objs.size f cdv)) → sp ds n Q' W.E' →
      ∃ wd, PSs (cxOf (L2.CX P w) P w K mg base N qual scope f cdv A outer s H W.E) body (liftSR K W i wd) ∧ wd { nx := fun τ n => ∃ xs, τ[i]? = some (some (.own xs)) ∧ Q' (.lst xs) n, rt := fun _ _ => False } (startT N ds) n) : FnOk P w K mg base (L2.CX P w) (k + 1) f fd ps (liftSpF K Cs sp) := by
  refine F.ok S (fun vs H Q E h => ?_) (fun cdv A outer s H vs Q E hr h => ?_)
  · obtain ⟨C, M, n, ds, Q', E', hC, hb, al, bag, tab, hd, hsp, hQ, hE⟩ := h
    rw [hd.length]
    exact hlen _ _ _ _ hsp
  · obtain ⟨C, M, n, ds, Q', E', hC, hb, al, bag, tab, hd, hsp, hQ, hE⟩ := h
    have hl := hlen _ _ _ _ hsp
    have hv : vs.length = ps.length := by rw [hd.length]; exact hl
    obtain ⟨wd, h1, h2⟩ := hbody cdv A outer s H ⟨C, [C.b], M, H, hb, List.mem_singleton.mpr rfl, E', E⟩ ds n Q' hC (fun c ns ws es dd H' n' ey al' bag' tab' h1 h2 h3 h4 => hE c ns ws es dd H' n' ⟨ey, al', bag', tab'⟩ h1 h2 h3 h4) hr hsp
    refine ⟨_, h1, [], [], _, n, _, start_rel hN (by omega) hb al bag tab hd E' E, h2, fun σ' H' τ' n' O' q ⟨xs, hx, hq⟩ => ?_, fun _ _ _ _ _ _ h => h.elim, fun _ _ _ _ _ _ h => h.elim, fun v H' d n' r hq => hq.elim⟩
    obtain ⟨v, hv, a, us, e1, e2, e3, e4⟩ := q.slot i _ hx
    subst e1
    obtain ⟨o1, o2, o3⟩ := q.own _ e2
    refine ⟨_, hv, hQ a us H' xs n' ⟨q.ext, fun x hx => q.al x (List.mem_append_right _ hx), q.bag, q.tab⟩ (fun o ho => ?_) o2 o3 e3 (DatL.sub (fun x hx => ?_) e4) hq⟩
    · rcases o1 o ho with z | z
      · exact absurd (by rw [List.mem_singleton.mp z]; exact hb) o2
      · exact z
    · rcases List.mem_cons.mp hx with rfl | hx
      · exact List.mem_append_left _ (List.mem_map.mpr ⟨_, e2, rfl⟩)
      · exact List.mem_append_right _ hx
end
end VF
/-! ## isinstance by data -/
namespace VF
open PySem PySem.Spec PyProof.Rows L2
section
variable {K : PySem.W.Frag} {X : Cx} {b : Addr} {M : List Addr} {H : Hp} {n : Int} {P : DP}
/-- isinstance(x, (c1, c2, ..)), the classes in any tuple -/
def rIsiS (K : PySem.W.Frag) : List V → Hp → VK → Prop := fun xs H Q => ∃ (x : V) (tp : Addr) (cs : List V) (t : Value) (us : List Value) (b : Bool), xs = [x, .ref tp] ∧ SqT K H tp cs ∧ Paired ClsV cs us ∧ TyX K H x t ∧ PySem.W.kitAny K t us = some b ∧ Q (.bl b) H
theorem call_isiS (K : PySem.W.Frag) (h : X.K = K := by rfl) : CallR X (.builtin "isinstance") (rIsiS K) := by
  subst h
  intro pins s σ H xs us Q I r h
  obtain ⟨x, tp, cs, t, ws, b, rfl, hT, k, ty, e, q⟩ := h
  obtain ⟨u1, u2, rfl, r1, r2⟩ := vals2 r
  cases (show u2 = Value.ref tp from r2)
  obtain ⟨P, Z, p, hx⟩ := kit_of I r1 ty
  obtain ⟨its, rv, ⟨o, h1, h2, n, h3⟩, hz⟩ := I.tuple hT
  have e3 := ClsV.all k rv
  subst e3
  obtain ⟨oc, od, dt, sl⟩ := o
  simp only at h2 h3
  subst h2 h3
  exact PySem.W.kia_tup Z I.kIn p h1 e hx fun tk => ⟨.bl b, H, I.tok tk, rfl, q⟩
def tyD : DV → Option String
  | .non => some "NoneType" | .bl _ => some "bool" | .int _ => some "int" | .str _ => some "str" | .lst _ => some "list" | .tup _ => some "tuple" | _ => none
theorem Dat.tyX {v : V} {d : DV} {a : String} (h : Dat K b M H v d) (e : tyD d = some a) : TyX K H v (.type a) := by
  cases h with
  | non => cases e; exact .base .non
  | bl b => cases e; exact .base (.bl b)
  | int i => cases e; exact .base (.int i)
  | str x => cases e; exact .base (.str x)
  | lst h _ => cases e; exact BF.ty_sqL (SqL.of h.1)
  | tup h _ => cases e; exact BF.ty_sqT h.1
  | _ => cases e
/-- the types' names of a tuple of types -/
def tysD : List DV → Option (List String)
  | [] => some []
  | .ty t :: r => (tysD r).map (t :: ·)
  | _ => none
def kitAll (a : String) : List String → Option Bool
  | [] => some false
  | t :: r => match kitB a t with
    | some true => some true
    | some false => kitAll a r
    | none => none
theorem kitAll_ok {a : String} : ∀ {ts : List String} {x : Bool}, kitAll a ts = some x → PySem.W.kitAny K (.type a) (ts.map Value.type) = some x
  | [], x, e => by cases e; exact kitAny_nil
  | t :: r, x, e => by
    simp only [kitAll] at e
    cases h : kitB a t with
    | none => rw [h] at e; cases e
    | some y =>
      rw [h] at e
      refine kitAny_cons (b := y) (kit_ty h) (fun ey => ?_) fun ey => ?_
      · subst ey; exact kitAll_ok e
      · subst ey; cases e; rfl
theorem tysD_ok : ∀ {vs : List V} {ds : List DV} {ts : List String}, DatL K b M H vs ds → tysD ds = some ts → Paired ClsV vs (ts.map Value.type)
  | _, _, _, .nil, e => by cases e; exact .nil
  | _, _, _, .cons (d := d) h l, e => by
    cases h with
    | ty t =>
      simp only [tysD] at e
      obtain ⟨r, hr, e⟩ := Option.map_eq_some_iff.mp e
      subst e
      exact .cons (.ty t) (tysD_ok l hr)
    | _ => cases e
def wIsi : List DV → DP → Prop
  | [d, .ty t], Q => ∃ a r, tyD d = some a ∧ kitB a t = some r ∧ Q (.bl r)
  | _, _ => False
def wIsiT : List DV → DP → Prop
  | [d, .tup cs], Q => ∃ a ts r, tyD d = some a ∧ tysD cs = some ts ∧ kitAll a ts = some r ∧ Q (.bl r)
  | _, _ => False
theorem d_isi : DCall K (rIsi K) wIsi := fun b M H xs ds Q' Q al hd hw k => by
  cases hd with
  | nil => exact hw.elim
  | cons h1 hd => cases hd with
    | nil => exact hw.elim
    | cons h2 hd => cases hd with
      | cons _ _ => cases h2 <;> exact hw.elim
      | nil =>
        cases h2 with
        | ty t =>
          obtain ⟨a, r, e1, e2, hq⟩ := hw
          exact BF.x_isi (h1.tyX e1) e2 (k _ H _ (BF.Ex.refl H) (.bl r) hq)
        | _ => exact hw.elim
theorem d_isiT : DCall K (rIsiS K) wIsiT := fun b M H xs ds Q' Q al hd hw k => by
  cases hd with
  | nil => exact hw.elim
  | cons h1 hd => cases hd with
    | nil => exact hw.elim
    | cons h2 hd => cases hd with
      | cons _ _ => cases h2 <;> exact hw.elim
      | nil =>
        cases h2 with
        | tup h l =>
          obtain ⟨a, ts, r, e1, e2, e3, hq⟩ := hw
          exact ⟨_, _, _, _, _, r, rfl, h.1, tysD_ok l e2, h1.tyX e1, kitAll_ok e3, k _ H _ (BF.Ex.refl H) (.bl r) hq⟩
        | _ => exact hw.elim
theorem y_isi {d : DV} {t a : String} {r : Bool} (e1 : tyD d = some a) (e2 : kitB a t = some r) (k : P (.bl r)) : wIsi [d, .ty t] P := ⟨a, r, e1, e2, k⟩
theorem y_isiT {d : DV} {cs : List DV} {ts : List String} {a : String} {r : Bool} (e1 : tyD d = some a) (e2 : tysD cs = some ts) (e3 : kitAll a ts = some r) (k : P (.bl r)) : wIsiT [d, .tup cs] P := ⟨a, ts, r, e1, e2, e3, k⟩
end
end VF
/-! ## in, by data -/
namespace VF
open PySem PySem.Spec PyProof.Rows L2
section
variable {K : PySem.W.Frag} {X : Cx} {b : Addr} {M : List Addr} {H : Hp} {P : DP}
def flD : DV → Option V
  | .non => some .non | .bl x => some (.bl x) | .int i => some (.int i) | .str x => some (.str x) | _ => none
def flL : List DV → Option (List V)
  | [] => some []
  | d :: r => match flD d, flL r with
    | some v, some vs => some (v :: vs)
    | _, _ => none
theorem flD_ok {v u : V} {d : DV} (h : Dat K b M H v d) (e : flD d = some u) : v = u ∧ flatV v = true := by
  cases h <;> first | (cases e; exact ⟨rfl, rfl⟩) | cases e
theorem flL_ok : ∀ {vs us : List V} {ds : List DV}, DatL K b M H vs ds → flL ds = some us → vs = us ∧ vs.all flatV = true
  | _, _, _, .nil, e => by cases e; exact ⟨rfl, rfl⟩
  | _, _, _, .cons (d := d) (ds := ds) h l, e => by
    simp only [flL] at e
    cases h1 : flD d with
    | none => rw [h1] at e; cases e
    | some v =>
      cases h2 : flL ds with
      | none => rw [h1, h2] at e; cases e
      | some vs =>
        rw [h1, h2] at e
        cases e
        obtain ⟨a1, a2⟩ := flD_ok h h1
        obtain ⟨b1, b2⟩ := flL_ok l h2
        exact ⟨by rw [a1, b1], by rw [List.all_cons, a2, b2]; rfl⟩
theorem op_inU (K : PySem.W.Frag) (hu : X.A.units + 65 < cLine) (h : X.K = K := by rfl) : OpR X (compareOp .In) (fun x y H Q => rIn K false x y H Q ∨ rInD K x y H Q) := h ▸ op_in_seq.or (op_inD hu)
theorem op_notInU (K : PySem.W.Frag) (hu : X.A.units + 65 < cLine) (h : X.K = K := by rfl) : OpR X (compareOp .NotIn) (fun x y H Q => rIn K true x y H Q ∨ rNotInD K x y H Q) := h ▸ op_notIn_seq.or (op_notInD hu)
/-- flat items of a list or tuple; or any data in a list -/
def wIn (neg : Bool) (d e : DV) (P : DP) : Prop := (∃ xs v vs, (e = .lst xs ∨ e = .tup xs) ∧ flD d = some v ∧ flL xs = some vs ∧ P (.bl (if neg then !inV v vs else inV v vs))) ∨
  ∃ x ys, toPy d = some x ∧ toPy e = some (.list ys) ∧ SeqAt.shaped x = true ∧ SeqAt.shaped (.list ys) = true ∧ P (.bl (if neg then !(ys.any fun z => PyData.eqv z x) else ys.any fun z => PyData.eqv z x))
theorem in_flat {neg : Bool} {x y : V} {d e : DV} {xs : List DV} {v : V} {vs : List V} {Q : VK} (hx : Dat K b M H x d) (hy : Dat K b M H y e) (he : e = .lst xs ∨ e = .tup xs) (h1 : flD d = some v) (h2 : flL xs = some vs) (k : Q (.bl (if neg then !inV v vs else inV v vs)) H) : rIn K neg x y H Q := by
  obtain ⟨rfl, f1⟩ := flD_ok hx h1
  rcases he with rfl | rfl
  · cases hy with
    | lst h l =>
      obtain ⟨rfl, f2⟩ := flL_ok l h2
      exact ⟨_, _, rfl, .inl (SqL.of h.1), f1, f2, k⟩
  · cases hy with
    | tup h l =>
      obtain ⟨rfl, f2⟩ := flL_ok l h2
      exact ⟨_, _, rfl, .inr h.1, f1, f2, k⟩
theorem d_in : DOp K (fun x y H Q => rIn K false x y H Q ∨ rInD K x y H Q) (wIn false) := fun b M H x y d e Q' Q al hx hy hw k => by
  rcases hw with ⟨xs, v, vs, he, h1, h2, hq⟩ | ⟨u, ys, h1, h2, s1, s2, hq⟩
  · exact .inl (in_flat hx hy he h1 h2 (k _ H _ (BF.Ex.refl H) (.bl _) hq))
  · exact .inr ⟨u, ys, dp_of hx h1, dp_of hy h2, s1, s2, k _ H _ (BF.Ex.refl H) (.bl _) hq⟩
theorem d_notin : DOp K (fun x y H Q => rIn K true x y H Q ∨ rNotInD K x y H Q) (wIn true) := fun b M H x y d e Q' Q al hx hy hw k => by
  rcases hw with ⟨xs, v, vs, he, h1, h2, hq⟩ | ⟨u, ys, h1, h2, s1, s2, hq⟩
  · exact .inl (in_flat hx hy he h1 h2 (k _ H _ (BF.Ex.refl H) (.bl _) hq))
  · exact .inr ⟨u, ys, dp_of hx h1, dp_of hy h2, s1, s2, k _ H _ (BF.Ex.refl H) (.bl _) hq⟩
theorem y_inF {neg : Bool} {d e : DV} {xs : List DV} {v : V} {vs : List V} (he : e = .lst xs ∨ e = .tup xs) (h1 : flD d = some v) (h2 : flL xs = some vs) (k : P (.bl (if neg then !inV v vs else inV v vs))) : wIn neg d e P := .inl ⟨xs, v, vs, he, h1, h2, k⟩
theorem y_inD {neg : Bool} {d e : DV} {x : PyData} {ys : List PyData} (h1 : toPy d = some x) (h2 : toPy e = some (.list ys)) (s1 : SeqAt.shaped x = true) (s2 : SeqAt.shaped (.list ys) = true) (k : P (.bl (if neg then !(ys.any fun z => PyData.eqv z x) else ys.any fun z => PyData.eqv z x))) : wIn neg d e P := .inr ⟨x, ys, h1, h2, s1, s2, k⟩
end
end VF
/-! ## enumerate and reversed by data -/
namespace VF
open PySem PySem.Spec PyProof.Rows L2
section
variable {K : PySem.W.Frag} {W : Wc} {X : Cx} {e tg : Expr} {wr : WA} {we : WE}
def enumD (xs : List DV) : List DV := xs.zipIdx.map fun p => .tup [.int (p.2 : Nat), p.1]
theorem enumD_len {xs : List DV} : (enumD xs).length = xs.length := by simp [enumD]
theorem enumD_at {xs : List DV} {i : Nat} {d : DV} (h : xs[i]? = some d) : (enumD xs)[i]? = some (.tup [.int (i : Nat), d]) := by
  unfold enumD
  rw [List.getElem?_map, List.getElem?_zipIdx, h]
  simp
def wEnum (wr : WA) : WA := fun τ n Q => wr τ n fun ds τ1 n1 => ∃ xs, ds = [.lst xs] ∧ Q (enumD xs) τ1 n1
theorem vi_enum (h : PI X tg e (iEnum K (liftA K W wr))) : PI X tg e (liftI K W (wEnum wr)) := PI.imp h fun σ H R ⟨Γ, O, τ, n, Q', q, hw, k⟩ => ⟨Γ, O, τ, n, _, q, hw, fun vs H1 ds O1 τ1 n1 q1 d1 ⟨xs, ed, hq⟩ => by
  subst ed
  cases d1 with
  | cons h1 h2 =>
    cases h2
    cases h1 with
    | @lst a us _ a1 a2 =>
      refine ⟨a, us, rfl, SqL.of a1.1, k _ H1 [.l a us xs] _ O1 τ1 n1 (q1.gcons ⟨a1, a2⟩) ⟨_, _, by rw [enumD_len, ← a2.length]; exact walk_enum, fun O M H g => SqL.of (g _ List.mem_cons_self).1.1, fun O M H i x H' g al hi y => ?_⟩ hq⟩
      obtain ⟨T, x, z, rfl, y2, y3, y4, y5⟩ := y
      obtain ⟨d, e1, e2⟩ := (g (.l a us xs) (by simp)).2.get y5
      cases y4
      obtain ⟨p1, p2⟩ := pair_dat al y2 y3 (.int _) e2
      exact ⟨p1, _, enumD_at e1, p2⟩⟩
theorem walk_rt {a : Addr} {xs : List V} : Walk (RT.ItvT K a xs.length) xs.length (fun H => SqT K H a xs) (fun i H x H' => H' = H ∧ xs[xs.length - 1 - i]? = some x) :=
  ⟨fun i H hi h => ⟨hi, xs, _, h, List.getElem?_eq_getElem (by omega)⟩, fun H h => Nat.le_refl _, fun i H x H' hi h y => ⟨y.1, y.2 xs h⟩⟩
def wRevA (we : WE) : WA := fun τ n Q => we τ n fun d τ1 n1 => ∃ ds, (d = .lst ds ∨ d = .tup ds) ∧ Q ds.reverse τ1 n1
theorem rev_at {ds : List DV} {n i : Nat} (e : n = ds.length) (hi : i < n) : ds.reverse[i]? = ds[n - 1 - i]? := by
  subst e
  rw [List.getElem?_reverse hi]
theorem vi_revA (hK : X.K = K) (h : PI X tg e (RT.iRevA X.K (liftE K W we))) : PI X tg e (liftI K W (wRevA we)) := by
  subst hK
  refine PI.imp h fun σ H R ⟨Γ, O, τ, n, Q', q, hw, k⟩ => ⟨Γ, O, τ, n, _, q, hw, fun v H1 d O1 τ1 n1 q1 d1 ⟨ds, ed, hq⟩ => ?_⟩
  rcases ed with ed | ed
  · subst ed
    cases d1 with
    | @lst a vs _ h1 h2 =>
      refine ⟨a, vs, rfl, .inl ⟨SqL.of h1.1, k _ H1 [.l a vs ds] ds.reverse O1 τ1 n1 (q1.gcons ⟨h1, h2⟩) ⟨_, _, by rw [List.length_reverse, ← h2.length]; exact walk_rev, fun O M H g => SqL.of (g _ List.mem_cons_self).1.1, fun O M H i x H' g _ hi y => ?_⟩ hq⟩⟩
      obtain ⟨rfl, y2⟩ := y
      obtain ⟨d, e1, e2⟩ := (g _ List.mem_cons_self).2.get y2
      exact ⟨BF.Ex.refl _, d, by rw [rev_at h2.length (by rw [h2.length]; simpa using hi)]; exact e1, e2⟩
  · subst ed
    cases d1 with
    | @tup a vs _ h1 h2 =>
      refine ⟨a, vs, rfl, .inr ⟨h1.1, k _ H1 [.t a vs ds] ds.reverse O1 τ1 n1 (q1.gcons ⟨h1, h2⟩) ⟨_, _, by rw [List.length_reverse, ← h2.length]; exact walk_rt, fun O M H g => (g _ List.mem_cons_self).1.1, fun O M H i x H' g _ hi y => ?_⟩ hq⟩⟩
      obtain ⟨rfl, y2⟩ := y
      obtain ⟨d, e1, e2⟩ := (g _ List.mem_cons_self).2.get y2
      exact ⟨BF.Ex.refl _, d, by rw [rev_at h2.length (by rw [h2.length]; simpa using hi)]; exact e1, e2⟩
theorem y_enum {τ : ST} {n : Int} {Q : List DV → ST → Int → Prop} (k : wr τ n fun ds τ1 n1 => ∃ xs, ds = [.lst xs] ∧ Q (enumD xs) τ1 n1) : wEnum wr τ n Q := k
theorem y_revA {τ : ST} {n : Int} {Q : List DV → ST → Int → Prop} (k : we τ n fun d τ1 n1 => ∃ ds, (d = .lst ds ∨ d = .tup ds) ∧ Q ds.reverse τ1 n1) : wRevA we τ n Q := k
end
end VF
/-! ## Exceptions as values -/
namespace BF
open PySem PySem.Spec PyProof.Rows L2
/-- C(e, ..) as a value: a new exception object, its own __init__ keeping sp -/
def tMkV (C : Addr) (sp : Sp) (dvs : List V) (ta : TA) : TE := fun σ H Q => ta σ H fun vs H1 => vs.length ≤ 1000 ∧ ∀ a, H1 a = none → sp (.ref a :: (vs ++ dvs)) (upd H1 a (exo a C none)) (fun v H2 => v = .non ∧ Q (.ref a) H2) (fun _ _ _ => False)
section
variable {X : Cx} {e : Expr} {es : List Expr} {ta : TA} {p pos : Pos}
theorem pe_oexV {CX : CXT} {x : Str} {C fI : Addr} {k : Nat} {fd : FuncData} {ps : List Str} {sp : Sp} {ds : List Value} {dvs : List V} (T : OexC X.K C) (iC : PySem.W.findIn X.K (.ref C) "__init__" = some (some (.ref fI))) (tI : PySem.W.typeIn X.K (.ref fI) = some (.type "function"))
    (F1 : FnOk X.prog X.w X.K X.mg X.base CX k fI fd ps sp) (hr : Room (k + 1) X.A) (hb : Binds X.K fd ps ds) (hd : Vals dvs ds) (hx : Passes CX X (fun _ _ _ => False)) (hg : Gl X x) (hm : X.mg x = some (.ref C)) (ha : PA X (e :: es) ta)
    (hdb : (x == ("__debug__" : Str)) = false := by decide) (he : starEach (e :: es) X.env = (false, eval e X.env) :: starEach es X.env := by rfl) (hpl : (backTo pos (starEach es X.env)).any (·.1) = false := by rfl) :
    PE X (.Call (.Name x p) (e :: es) [] pos) (tMkV C sp dvs ta) := by
  refine ⟨fun pins s σ H Q I h => ?_⟩
  obtain ⟨nm, q, N, bs, bm, sn, sub, ab, col, dd, k0, k1, k2, k3, k5, hC, hbm⟩ := T.cls
  refine wpAny_Call_Name_kw (ld_glob I hg hm ?_ hdb)
  refine PySem.W.callWith_K (h₀ := X.base) I.ok.mod.kin T.kC (thn (ha.run pos pins s σ H _ I h) fun us s1 ⟨vs, H1, I1, r1, hz, q1⟩ => ⟨I1.kIn, ?_⟩) he hpl
  show wpAny _ _ (call (.ref C) us) _ _ _
  obtain ⟨hp, g, dr, tk, os⟩ := s1
  have hsz : hp.objs.size ≤ hp.objs.size + 1 := Nat.le_succ _
  have hn : H1 (hp.objs.size + 1) = none := I1.hok.fresh hsz
  have hq := q1 (hp.objs.size + 1) hn
  have kk : ∀ b o, hp.get? b = some o → ((hp.push (PySem.W.kdv_tup us)).push (PySem.HandSPX.excO C hp.objs.size)).get? b = some o := fun b o e => Heap.get?_push_of_some _ (Heap.get?_push_of_some _ e)
  have hget : ((hp.push (PySem.W.kdv_tup us)).push (PySem.HandSPX.excO C hp.objs.size)).get? (hp.objs.size + 1) = some (PySem.HandSPX.excO C hp.objs.size) := by heap_get
  have I2 : Inv X pins σ (upd H1 (hp.objs.size + 1) (exo (hp.objs.size + 1) C none)) ⟨(hp.push (PySem.W.kdv_tup us)).push (PySem.HandSPX.excO C hp.objs.size), g, dr, tk, os⟩ :=
    I1.laid (t' := tk) (a := hp.objs.size + 1) (o := exo (hp.objs.size + 1) C none) (h' := (hp.push (PySem.W.kdv_tup us)).push (PySem.HandSPX.excO C hp.objs.size)) kk hsz (exo_ok hget)
  have r2 : Vals (V.ref (hp.objs.size + 1) :: (vs ++ dvs)) (Value.ref (hp.objs.size + 1) :: (us ++ ds)) := .cons rfl (r1.append hd)
  have hl : (Value.ref (hp.objs.size + 1) :: us ++ ds).length = ps.length := by
    have e := r2.length
    rw [F1.len _ _ _ _ hq] at e
    exact e.symm
  have hus : us.length ≤ sizeLine := by
    rw [← Paired.length r1, sizeLine_eq]
    omega
  refine wpAny_call (PySem.HandSPX.call_own F.excBase_ValueError (fun Y => PySem.HandSPX.refsVE_contains Y bm hbm) (I1.kIn _ _ hC) (PySem.W.looks_findIn I1.kIn iC) (fun self => PySem.W.bind_fn I1.kIn self tI) hus
    (codeAny_mono (F1.run _ X.stack _ _ ⟨Value.ref (hp.objs.size + 1) :: us, []⟩ (Value.ref (hp.objs.size + 1) :: (us ++ ds)) _ _ (fun _ _ _ => False) (hr.make C us []) (I2.env0.make C us []) (hb _ (Value.ref (hp.objs.size + 1) :: us) I2.kIn hl) r2 hq) fun r s' hq' => ?_))
  cases r with
  | error er => exact hx pins σ _ _ er s' I2 hq'
  | ok fl =>
    cases fl with
    | ret u =>
      obtain ⟨z, H', I', rz, ez, qq⟩ := I2.after hq'
      subst ez
      exact ⟨rz, .ref (hp.objs.size + 1), H', I', rfl, qq⟩
    | next => exact False.elim hq'
    | brk => exact False.elim hq'
    | cont => exact False.elim hq'
end
end BF
/-! ## Instances made, by data -/
namespace VF
open PySem PySem.Spec PyProof.Rows L2
/-- what an __init__ is told (without self), and what its instance then holds -/
abbrev ISp := List DV → Int → (List Str → List DV → Int → Prop) → XV → Prop
section
variable {K : PySem.W.Frag}
def liftSpI (K : PySem.W.Frag) (Cs : Cf → Prop) (cl : Str) (sp : ISp) : Sp := fun vs H Q E => ∃ (C : Cf) (M : List Addr) (n : Int) (ds : List DV) (Q' : List Str → List DV → Int → Prop) (E' : XV) (x dx : Addr) (us : List V), vs = .ref x :: us ∧ Cs C ∧ C.b ∈ M ∧ x ∉ M ∧ x ∉ C.bx ∧ AlN M H ∧ C.B H n ∧ LamX.Tabs C.T H ∧
  DatL K C.b (x :: M) H us ds ∧ H x = some (.ins (He.ga K cl) dx []) ∧ sp ds n Q' E' ∧
  (∀ H' dx' ws ns es n', Ey [C.b, x] H H' → AlN M H' → C.B H' n' → LamX.Tabs C.T H' → H' x = some (.ins (He.ga K cl) dx' (ns.zip ws)) → ns.length = ws.length → DatL K C.b M H' ws es → Q' ns es n' → Q .non H') ∧
  (∀ c ns ws es dd H' n', Ey [C.b, x] H H' → AlN M H' → C.B H' n' → LamX.Tabs C.T H' → H' dd = some (.xd (ns.zip ws)) → ns.length = ws.length → DatL K C.b M H' ws es → E' c ns es n' → E (.ref (He.ga K c)) (some dd) H')
def startI (N : List Str) (z : Addr) (cl : Str) (ds : List DV) : ST := some (.self z cl [] []) :: (ds.map (fun d => some (.d d)) ++ List.replicate (N.length - (ds.length + 1)) none)
theorem v_okI {P : Program} {w : World} {mg : Str → Option Value} {base : Heap} {Cs : Cf → Prop} {sp : ISp} {cl x qual : Str} {params : Arguments} {body : List Stmt} {scope : Scope} {dvs : List V} {kws : List (Str × V)} {f : Addr} {fd : FuncData} {N ps : List Str} {k : Nat}
    (F : FunD K x qual params body scope dvs kws f fd) (S : FnScope N ps scope) (hN : N.length < 1000000) (hp : ps.length ≤ N.length) (hlen : ∀ ds n Q E, sp ds n Q E → ds.length + 1 = ps.length)
    (hbody : ∀ (cdv : Value) (A : Around) (outer : List Env) (s : Shared) (H : Hp) (W : Wc) (ds : List DV) (n : Int) (Q' : List Str → List DV → Int → Prop) (z : Addr), Cs W.toCf → ELink K W → Room k (A.deeper (envOfC qual scope s.heap.objs.size f cdv)) → sp ds n Q' W.E' →
      ∃ wd, PSs (cxOf (L2.CX P w) P w K mg base N qual scope f cdv A outer s H W.E) body (liftS K W wd) ∧ wd { nx := fun τ n => ∃ ns es, τ[0]? = some (some (.self z cl ns es)) ∧ Q' ns es n, rt := fun _ _ => False } (startI N z cl ds) n) : FnOk P w K mg base (L2.CX P w) (k + 1) f fd ps (liftSpI K Cs cl sp) := by
  refine F.ok S (fun vs H Q E h => ?_) (fun cdv A outer s H vs Q E hr h => ?_)
  · obtain ⟨C, M, n, ds, Q', E', x, dx, us, rfl, hC, hb, xm, xb, al, bag, tab, hd, hx, hsp, hQ, hE⟩ := h
    rw [List.length_cons, hd.length]
    exact hlen _ _ _ _ hsp
  · obtain ⟨C, M, n, ds, Q', E', x, dx, us, rfl, hC, hb, xm, xb, al, bag, tab, hd, hx, hsp, hQ, hE⟩ := h
    have hl := hlen _ _ _ _ hsp
    have e := hd.length
    obtain ⟨wd, h1, h2⟩ := hbody cdv A outer s H ⟨C, [C.b, x], M, H, hb, by simp, E', E⟩ ds n Q' x hC (fun c ns ws es dd H' n' ey al' bag' tab' h1 h2 h3 h4 => hE c ns ws es dd H' n' ey al' bag' tab' h1 h2 h3 h4) hr hsp
    refine ⟨_, h1, [], [(0, x)], _, n, _, ?_, h2, fun σ' H' τ' n' O' q ⟨ns, es, hx', hq⟩ => ?_, fun _ _ _ _ _ _ h => h.elim, fun _ _ _ _ _ _ h => h.elim, fun v H' d n' r hq => hq.elim⟩
    · refine ⟨by simp [startI, L2.start, e], by simp [startI]; omega, fun i s hs => ?_, nofun, by simp [ad], fun p hp => ?_, Ey.refl H, bag, ⟨n, bag⟩, tab, fun y hy => ?_, al, fun y hy => ?_⟩
      · cases i with
        | zero =>
          cases hs
          exact ⟨.ref x, rfl, dx, [], rfl, by simp, hx, rfl, .nil⟩
        | succ i =>
          unfold startI at hs
          rw [List.getElem?_cons_succ] at hs
          by_cases hi : i < ds.length
          · rw [List.getElem?_append_left (by simpa using hi), List.getElem?_map] at hs
            obtain ⟨d, hd', e'⟩ := Option.map_eq_some_iff.mp hs
            cases e'
            obtain ⟨v, hv, k⟩ := hd.at hd'
            refine ⟨v, ?_, k⟩
            unfold L2.start
            rw [List.map_cons, List.cons_append, List.getElem?_cons_succ, List.getElem?_append_left (by simpa [e] using hi), List.getElem?_map, hv]
            rfl
          · rw [List.getElem?_append_right (by simpa using hi), List.getElem?_replicate] at hs
            split at hs <;> cases hs
      · rw [List.mem_singleton.mp hp]
        exact ⟨fun o _ => .inl (by simp), xm, xb⟩
      · rcases List.mem_append.mp hy with hy | hy
        · rw [show y = x by simpa [ad] using hy]
          exact ⟨_, hx, .inr ⟨_, _, _, rfl⟩⟩
        · exact al y hy
      · rcases List.mem_cons.mp hy with rfl | hy
        · exact .inl rfl
        · rw [List.mem_singleton.mp hy]
          exact .inr xm
    · obtain ⟨v, hv, dx', ws, e1, e2, e3, e4, e5⟩ := q.slot 0 _ hx'
      exact hQ H' dx' ws ns es n' q.ext (fun y hy => q.al y (List.mem_append_right _ hy)) q.bag q.tab e3 e4 (DatL.sub (fun y hy => List.mem_append_right _ hy) e5) hq
variable {W : Wc} {X : Cx} {e : Expr} {wr : WA} {Cs : Cf → Prop}
def wMake (cl : Str) (sp : ISp) (dds : List DV) (E' : XV) (wr : WA) : WE := fun τ n Q => wr τ n fun ds τ1 n1 => sp (ds ++ dds) n1 (fun ns es n2 => Q (.ins cl ns es) τ1 n2) E'
theorem y_make {cl : Str} {sp : ISp} {dds : List DV} {E' : XV} {τ : ST} {n : Int} {Q : DV → ST → Int → Prop} (k : wr τ n fun ds τ1 n1 => sp (ds ++ dds) n1 (fun ns es n2 => Q (.ins cl ns es) τ1 n2) E') : wMake cl sp dds E' wr τ n Q := k
/-- behind what changes the bag and a new instance alone -/
theorem ey_new {b x : Addr} {H H1 H2 : Hp} (hx : H x = none) (ex : BF.Ex [] H H1) (ey : Ey [b, x] H1 H2) : Ey [b] H H2 := fun y o hy h t => ey y o (fun z => by
  rcases List.mem_cons.mp z with z | z
  · exact hy (by rw [z]; exact List.mem_singleton.mpr rfl)
  · rw [List.mem_singleton.mp z, hx] at h
    cases h) (ex _ _ (by simp) h) t
theorem ve_make {cl : Str} {sp : ISp} {dvs : List V} {dds : List DV} {E' : XV} {E : XK} (hC : Cs W.toCf) (hE : ELinkG K W E' E) (h : PE X e (BF.tMakeE (He.ga K cl) (liftSpI K Cs cl sp) dvs E (liftA K W wr))) (hdv : ∀ b M H, DatL K b M H dvs dds) : PE X e (liftE K W (wMake cl sp dds E' wr)) := by
  refine BF.PE.imp h fun σ H Q ⟨Γ, O, τ, n, Q', q, hw, k⟩ => ?_
  refine ⟨Γ, O, τ, n, _, q, hw, fun vs H1 ds O1 τ1 n1 q1 d1 hw1 => fun x dx H2 hx0 ex hx => ?_⟩
  have xm : x ∉ ad O1 ++ W.M0 := q1.al.out hx0
  have q2 := q1.ex ex
  refine ⟨W.toCf, ad O1 ++ W.M0, n1, ds ++ dds, _, E', x, dx, vs ++ dvs, rfl, hC, List.mem_append_right _ W.bm, xm, fun z => ?_, q2.al, q2.bag, q2.tab, DatL.ey (Ey.ex0 ex) (DatL.fresh hx0 (DatL.app d1 (hdv _ _ _))), hx, hw1, fun H3 dx' ws ns es n' ey al' bag' tab' h1 h2 h3 hq => ⟨rfl, ?_⟩, fun c ns ws es dd H3 n' ey al' bag' tab' h1 h2 h3 h4 => ?_⟩
  · obtain ⟨o, ho, _⟩ := W.Ba q1.bag x z
    rw [hx0] at ho
    cases ho
  · exact k (.ref x) H3 _ O1 τ1 n' (q1.step (ey_new hx0 ex ey) bag' tab' al') (.ins h1 xm h2 h3) hq
  · have e1 := ey_new hx0 ex ey
    exact hE c ns ws es dd H3 n' (q1.ext.tr (e1.sub fun y hy => by rw [List.mem_singleton.mp hy]; exact W.bd)) (fun y hy => al' y (sub_M0 y hy)) bag' tab' h1 h2 (DatL.sub sub_M0 h3) h4
end
end VF
/-! ## try with three named clauses -/
namespace BF
open PySem PySem.Spec PyProof.Rows L2
def wAs3 (K : PySem.W.Frag) (c c' c'' : Value) (i : Nat) (ts ts' ts'' : ClS) (D : Ends) : WX := fun cls d σ H =>
  ∃ b, PySem.W.exmOne K cls c = some b ∧ (b = true → ∀ a, H a = none → ts a cls d (unEnd i D) (σ.set i (some (.ref a))) H) ∧
    (b = false → ∃ b', PySem.W.exmOne K cls c' = some b' ∧ (b' = true → ∀ a, H a = none → ts' a cls d (unEnd i D) (σ.set i (some (.ref a))) H) ∧
      (b' = false → PySem.W.exmOne K cls c'' = some true ∧ ∀ a, H a = none → ts'' a cls d (unEnd i D) (σ.set i (some (.ref a))) H))
section
variable {X : Cx} {pins : List (Addr × Obj)} {σ : L2.St} {H : Hp} {D : Ends}
/-- try: body, except x as n: suite, except x' as n: suite', except x'' as n: suite'' -/
theorem ps_try_as3 {x x' x'' n : Str} {c c' c'' : Value} {i : Nat} {body suite suite' suite'' : List Stmt} {b₀ b₁ b₂ : Stmt} {np np' np'' pos pos1 pos2 pos3 : Pos} {tb : WX → TS} {ts ts' ts'' : ClS} (hs : X.stack = X.env :: X.outer) (hf : X.env.frame = some X.env.locals)
    (hN : X.N.Nodup) (hi : X.N[i]? = some n) (hln : X.env.kindOf n = some .local) (hc : Names X x c) (hc' : Names X x' c') (hc'' : Names X x'' c'')
    (hb : ∀ (W : WX) (pn : List (Addr × Obj)) (xe : Value → Shared → Prop), Takes (X.tr pn xe) W → PassesOwn (model X.prog X.w) X.A X.env xe → PSs (X.tr pn xe) body (tb W))
    (hsu : ∀ (a : Addr) (oe : Obj) (cls : Value) (d : Option Addr) (pn : List (Addr × Obj)), Zc cls d oe → (∃ vs, oe.data = .fields vs) → PSs (X.suite a ((a, oe) :: pn)) (b₀ :: suite) (ts a cls d))
    (hsu' : ∀ (a : Addr) (oe : Obj) (cls : Value) (d : Option Addr) (pn : List (Addr × Obj)), Zc cls d oe → (∃ vs, oe.data = .fields vs) → PSs (X.suite a ((a, oe) :: pn)) (b₁ :: suite') (ts' a cls d))
    (hsu'' : ∀ (a : Addr) (oe : Obj) (cls : Value) (d : Option Addr) (pn : List (Addr × Obj)), Zc cls d oe → (∃ vs, oe.data = .fields vs) → PSs (X.suite a ((a, oe) :: pn)) (b₂ :: suite'') (ts'' a cls d)) :
    PS X (.Try body [.ExceptHandler (some (.Name x np)) (some n) (b₀ :: suite) pos1, .ExceptHandler (some (.Name x' np')) (some n) (b₁ :: suite') pos2, .ExceptHandler (some (.Name x'' np'')) (some n) (b₂ :: suite'') pos3] [] [] pos) (fun D σ H => tb (wAs3 X.K c c' c'' i ts ts' ts'' D) D σ H) := by
  refine ⟨fun pins s σ H D I q => wpAny_Try_except ?_⟩
  refine wpAny_mono ((hb (wAs3 X.K c c' c'' i ts ts' ts'' D) (X.pn ++ pins) (fun e s₁ => wpAny (model X.prog X.w) X.A (noteFrame e X.env) (fun _ s₂ => wpAny (model X.prog X.w) X.A (setFlight e none) (fun _ s₃ =>
    wpAny (model X.prog X.w) X.A (handleBy e X.env [.ExceptHandler (some (.Name x np)) (some n) (b₀ :: suite) pos1, .ExceptHandler (some (.Name x' np')) (some n) (b₁ :: suite') pos2, .ExceptHandler (some (.Name x'' np'')) (some n) (b₂ :: suite'') pos3]) (SP X pins D) X.xe s₃) X.xe s₂) X.xe s₁) ?_ PassesOwn.looking).run [] s σ H D (I.toTry _) q) ?_ (fun _ _ r => r)
  · rintro u t ⟨a, B, sI, pins1, τ, G, cls, d, rfl, J, nb, up, sky, na, os, ag, b, hx, yes, no⟩
    have J := J.ofTry I.ok
    refine Sky.land (Z := Zc cls d) (B := B) (a := a) Zc.steady (by rw [I.ok.frames, hs]) hf (by rw [← hs]; exact sky) fun h f up' => ?_
    refine clause_as (t := t) hs hf hN hi hln hc hsu J nb f (up.trans up') na os ag hx (fun e => yes e a na) fun e => ?_
    obtain ⟨b', hx', yes', no'⟩ := no e
    refine clause_as (t := t) hs hf hN hi hln hc' hsu' J nb f (up.trans up') na os ag hx' (fun e => yes' e a na) fun e => ?_
    obtain ⟨hx'', k⟩ := no' e
    exact clause_as (t := t) hs hf hN hi hln hc'' hsu'' J nb f (up.trans up') na os ag hx'' (fun _ => k a na) nofun
  · intro fl t r
    cases fl with
    | ret v =>
      obtain ⟨w, τ, G, V, rv, k⟩ := r
      exact ⟨w, τ, G, V.ofTry I.ok, rv, k⟩
    | next =>
      obtain ⟨τ, G, V, k⟩ := r
      exact wpAny_execs_nil ⟨τ, G, V.ofTry I.ok, k⟩
    | brk =>
      obtain ⟨τ, G, V, k⟩ := r
      exact ⟨τ, G, V.ofTry I.ok, k⟩
    | cont =>
      obtain ⟨τ, G, V, k⟩ := r
      exact ⟨τ, G, V.ofTry I.ok, k⟩
end
end BF
/-! ## A caught exception handed to a def: it stands frozen while the def runs -/
namespace BF
open PySem PySem.Spec PyProof.Rows L2
def delA (H : Hp) (a : Addr) : Hp := fun b => if b = a then none else H b
theorem delA_same {H : Hp} {a : Addr} : delA H a a = none := by
  unfold delA
  rw [if_pos rfl]
theorem delA_ne {H : Hp} {a b : Addr} (h : b ≠ a) : delA H a b = H b := by
  unfold delA
  rw [if_neg h]
section
variable {X : Cx} {pins : List (Addr × Obj)} {σ : L2.St} {H : Hp} {s : Shared} {k : Nat} {f : Addr} {fd : FuncData} {ps : List Str} {sp : Sp} {Q : VK}
theorem run_fnX {a : Addr} {oe : Obj} {u : HO} {us : List Value} {vs : List V} (F : FnOk X.prog X.w X.K X.mg X.base CX0 k f fd ps sp) (hr : Room k X.A) (hb : Binds X.K fd ps []) (I : Inv X pins σ H s) (r : Vals vs us)
    (ha : s.heap.get? a = some oe) (hn : H a = none) (hbase : X.base.get? a = none) (hfr : a ∉ frs X.stack) (hu : ObjOk X.prog X.w (upd H a (.frz oe u)) s.heap a u)
    (h : sp vs (upd H a (.frz oe u)) (fun v H' => Q v (delA H' a)) C8.E0) : wpAny (model X.prog X.w) X.A (call (.ref f) us) (EP X pins σ Q) X.xe s := by
  have neN : ∀ {b : Addr} {o : HO}, H b = some o → b ≠ a := fun {b o} h1 z => by
    rw [z, hn] at h1
    cases h1
  have hok : HOk X.prog X.w (upd H a (.frz oe u)) s.heap := fun b o hb' => by
    by_cases z : b = a
    · subst z
      rw [upd_same] at hb'
      cases hb'
      exact ⟨ha, hu⟩
    · rw [upd_ne z] at hb'
      exact (I.hok b o hb').stay (fun c v hc y => y) (fun c hc => by rw [upd_ne (neN hc)]; exact hc) (fun c xs hc => by rw [upd_ne (neN hc)]; exact hc)
  have e0 := I.env0
  have E1 : Env0 X.prog X.w X.K X.mg X.base X.A X.stack s (upd H a (.frz oe u)) := ⟨e0.frames, e0.mod, fun b o hb' => ⟨(e0.bs b o hb').1, by
    rw [upd_ne (fun z => by rw [z, hbase] at hb'; cases hb')]
    exact (e0.bs b o hb').2⟩, e0.bsz, e0.funs, fun b hb' => by
    have z : b ≠ a := fun z => hfr (by rw [← z]; exact hb')
    rw [upd_ne z]
    exact e0.frf b hb', hok, e0.bare⟩
  have hl : us.length = ps.length := by rw [← r.length]; exact F.len _ _ _ _ h
  have hb0 := hb s us I.kIn (by simpa using hl)
  rw [List.append_nil] at hb0
  refine wpAny_call (codeAny_mono (F.run X.A X.stack s _ ⟨us, []⟩ us vs _ C8.E0 hr E1 hb0 r h) fun r s' hq => ?_)
  cases r with
  | error e => exact (show False from hq).elim
  | ok fl =>
    cases fl with
    | ret w =>
      obtain ⟨v, H', os, bare, un, hok', rv, q⟩ := hq
      have hA : H' a = some (.frz oe u) := un.frzs a oe u upd_same
      have hA2 : s'.heap.get? a = some oe := (hok' a _ hA).1
      refine I.after ⟨v, delA H' a, os, bare, ⟨fun b o e n hf hx => ?_, fun b o e n hf hx => ?_, fun b o e n hx => ?_, un.there, fun b xs e => ?_, fun b o y e => ?_, fun b ps e => ?_⟩, fun b o e => ?_, rv, q⟩
      · by_cases z : b = a
        · rw [z] at e ⊢
          rw [ha] at e
          cases e
          exact hA2
        · exact un.keep b o e (by rw [upd_ne z]; exact n) hf hx
      · exact un.slot b o e (by
          have z : b ≠ a := fun z => hfr (by rw [← z]; exact hf)
          rw [upd_ne z]
          exact n) hf hx
      · by_cases z : b = a
        · rw [z]
          exact delA_same
        · rw [delA_ne z]
          exact un.free b o e (by rw [upd_ne z]; exact n) hx
      · rw [delA_ne (neN e)]
        exact un.tups b xs (by rw [upd_ne (neN e)]; exact e)
      · rw [delA_ne (neN e)]
        exact un.frzs b o y (by rw [upd_ne (neN e)]; exact e)
      · rw [delA_ne (neN e)]
        exact un.tbls b ps (by rw [upd_ne (neN e)]; exact e)
      · by_cases z : b = a
        · rw [z, delA_same] at e
          cases e
        · rw [delA_ne z] at e
          refine (hok' b o e).stay (fun c v hc y => y) (fun c hc => ?_) (fun c xs hc => ?_)
          · rw [delA_ne (fun z => by rw [z, hA] at hc; cases hc)]
            exact hc
          · rw [delA_ne (fun z => by rw [z, hA] at hc; cases hc)]
            exact hc
    | next => exact False.elim hq
    | brk => exact False.elim hq
    | cont => exact False.elim hq
end
end BF
/-! ## What a def may ask of an exception that it was handed: its fields, its class -/
namespace BF
open PySem PySem.Spec PyProof.Rows L2
/-- an exception of the class at C, its dict at d, as it stands -/
def exF (C : Addr) (d : Option Addr) (oe : Obj) : HO := .frz oe (.ext fun _ => Zc (.ref C) d oe ∧ ∃ vs, oe.data = .fields vs)
def tXfT (K : PySem.W.Frag) (f : Str) (te : TE) : TE := fun σ H Q => te σ H fun x H1 => ∃ (a C dd : Addr) (oe : Obj) (fs : List (Str × V)) (v : V), x = .ref a ∧ H1 a = some (exF C (some dd) oe) ∧ XfC K C ∧ PySem.W.findIn K (.ref C) f = some none ∧ H1 dd = some (.xd fs) ∧ fs.lookup f = some v ∧ Q v H1
theorem pe_xfT {X : Cx} {e : Expr} {te : TE} {pos : Pos} {n : Str} (he : PE X e te) (hb : attributeBase e n X.env (eval e X.env) = eval e X.env := by rfl) : PE X (.Attribute e n pos) (tXfT X.K n te) := by
  refine ⟨fun pins s σ H Q I h => ?_⟩
  refine attr_of hb (thn (he.run pins s σ H _ I h) fun u s1 hh => ?_)
  obtain ⟨x, H1, I1, rx, a, C, dd, oe, fs, v, ex, ea, T, hno, ed, l, q⟩ := hh
  subst ex
  obtain rfl : u = Value.ref a := rx
  obtain ⟨ha, ⟨hz, vs, hd⟩, _⟩ := (show ObjOk X.prog X.w H1 s1.heap a (exF C (some dd) oe) from I1.hok a _ ea)
  have hx : ObjOk X.prog X.w H1 s1.heap dd (.xd fs) := I1.hok dd _ ed
  obtain ⟨mA, hns, hr⟩ := hx
  obtain ⟨od, ho, hl⟩ := lookIn_ns hns
  obtain ⟨u, hu, ru⟩ := RelO.some_of (v := v) (o := mA n) (by rw [← l]; exact hr n)
  have J : PySem.W.InstAt s1.heap a oe C (some od) := ⟨ha, hz.1, by unfold PySem.W.notCls; rw [hd] <;> rfl, by rw [hz.2]; exact ho⟩
  exact HandSPX.exc_get I1.kIn J T.ga T.gg T.exC (PySem.W.findObj_own T.hdC hno rfl (by rw [hl, hu])) (handed_of ru) ⟨v, H1, I1.tok _, ru, q⟩
end BF
/-! ## isinstance of an exception that was handed on -/
namespace BF
open PySem PySem.Spec PySem.Calls PyProof.Rows L2 PySem.W
section
variable {prog : Program} {w : World} {A : Around} {E : Value → Shared → Prop} {s : Shared} {K : PySem.W.Frag} {x D : Addr} {ox : Obj} {od : Option Obj}
/-- x.__class__ of an exception object with a dict -/
theorem kin_classO {Q : Option Value → Shared → Prop} (C : ExcC K D) (hf : findObj K D od "__class__" = some (.bind (.builtin "getset_descriptor.__get__") (.builtin "object.__class__"))) (X : K.In s.heap) (I : InstAt s.heap x ox D od) (h : Q (some (.ref D)) { s with toks := s.toks + 1 }) :
    wpAny (model prog w) A (getAttr? (.ref x) "__class__") Q E s := by
  obtain ⟨hp, g, d, t, os⟩ := s
  have L0 := I.type (M := model prog w)
  have L1 := looks_findIn (M := model prog w) X C.hg
  have L2 := looks_findIn (M := model prog w) X C.hk
  have L3 := looks_find (M := model prog w) X I hf
  have sub : Looks (model prog w) hp (isInstance (.ref x) (.type "BaseException")) true := L0.andThen (looks_subIn X C.hs)
  have hx0 : (false && onTheHeap (Value.builtin "BaseException.__getattribute__")) = false := rfl
  have hx2 : (Value.builtin "BaseException.__getattribute__" == Value.builtin "object.__getattribute__") = false := by decide +kernel
  have hx1 : (onTheHeap (Value.ref D) && Value.builtin "BaseException.__getattribute__" == Value.builtin "object.__getattribute__") = false := by rw [hx2]; rfl
  unfold getAttr? getAttrBy? getAttrBy
  refine wpAny_bind (wpAny_mkText (wpAny_bind (wpAny_attempt (wpAny_holding (wpAny_bind (L0.at (wpAny_bind (L1.at ?_))))))))
  show wpAny _ _ (if (onTheHeap (Value.ref D) && Value.builtin "BaseException.__getattribute__" == Value.builtin "object.__getattribute__") = true then _ else _) _ _ _
  rw [hx1, if_neg Bool.false_ne_true]
  unfold getAttrByItsOwn hookBefore
  refine wpAny_bind ?_
  rw [if_pos (show onTheHeap (Value.ref D) = true from rfl)]
  refine L2.at ?_
  refine wpAny_bind (wpAny_attempt (wpAny_holding ?_))
  unfold callGetattribute
  rw [hx0, if_neg Bool.false_ne_true]
  unfold boundAndCalled
  rw [PySem.F.excAttr_ValueError.ga.bind (.ref x)]
  refine wpAny_bind (wpAny_pure ?_)
  show wpAny _ _ (call (.builtin "BaseException.__getattribute__") [.ref x, .str "__class__" t]) _ _ _
  refine wpAny_call (codeAny_call_builtin PySem.F.excAttr_ValueError.ga.plain PySem.F.entry_bexc_ga ?_)
  refine @check_slot (model prog w) _ _ ⟨hp, g, d, t + 1, os⟩ "BaseException.__getattribute__" "BaseException" "__getattribute__" (.ref x) [.str "__class__" t] [] _ (by decide +kernel) (by decide +kernel) sub (PySem.F.args_bexc_ga (.ref x) (.str "__class__" t)) ?_
  unfold Builtin.«object.__getattribute__»
  refine wpAny_bind (wpAny_of_eq (a := ((Value.ref x : Value), [Value.str "__class__" t])) (by first | rfl | (simp only [slotArgs]; rfl)) ?_)
  refine wpAny_bind (wpAny_pure (wpAny_bind (L0.at (wpAny_bind (L3.at ?_)))))
  show wpAny _ _ (holding [Value.builtin "object.__class__"] (call (.builtin "getset_descriptor.__get__") [.builtin "object.__class__", .ref x, .ref D]) >>= ret) _ _ _
  refine wpAny_bind (wpAny_holding (wpAny_call (class_get (s := ⟨hp, g, d, t + 1, os⟩) (ox := ox) (od := od) X I C.hm ?_)))
  refine wpAny_pure ?_
  show wpAny _ _ (handedOut (.ref D)) _ _ _
  rw [handedOut_of (v := .ref D) rfl]
  first
    | exact wpAny_pure (wpAny_pure h)
    | exact wpAny_pure h
    | exact wpAny_pure (wpAny_bind (wpAny_pure (wpAny_pure h)))
theorem kitx_excO (C : ExcC K D) (hf : findObj K D od "__class__" = some (.bind (.builtin "getset_descriptor.__get__") (.builtin "object.__class__"))) : KitX K (.ref x) (.ref D) (fun h => InstAt h x ox D od) where
  ty := fun _ _ _ I => I.type
  it := fun _ _ X _ => by
    obtain ⟨cdD, hcD, _⟩ := any_some C.hd
    unfold clsIn at hcD
    split at hcD
    · rename_i c' d' cd' sl' ho
      intro A' Q' E' s' k q
      unfold isType loadHead
      exact wpAny_bind (wpAny_loadPart (k _ _ (X _ _ ho)) (wpAny_pure q))
    · cases hcD
  ne := fun h tp dd its n sl X htp => (handS_kitx_exc (x := x) (ox := ox) C.hg C.hk C.hs C.hd C.ha C.hn C.ht C.hm).ne h tp dd its n sl X htp
  ca := fun X I k => kin_classO C hf X I k
end
/-- isinstance(e, c), e an exception that was handed on -/
def rIsET (K : PySem.W.Frag) : List V → Hp → VK → Prop := fun xs H Q => ∃ (a D dd : Addr) (oe : Obj) (fs : List (Str × V)) (c : V) (cv : Value) (b : Bool), xs = [.ref a, c] ∧ H a = some (exF D (some dd) oe) ∧ H dd = some (.xd fs) ∧ ExcC K D ∧ (∀ u, RelV c u → u = cv) ∧ PySem.W.kitOne K (.ref D) cv = some b ∧ Q (.bl b) H
theorem call_isET {X : Cx} : CallR X (.builtin "isinstance") (rIsET X.K) := by
  intro pins s σ H xs us Q I r h
  obtain ⟨a, D, dd, oe, fs, c, cv, b, rfl, ea, ed, C, hcv, e, q⟩ := h
  cases r with
  | cons rx rr =>
    cases rr with
    | cons rt rr =>
      cases rr
      cases rx
      have ec := hcv _ rt
      subst ec
      obtain ⟨hget, ⟨hz, vs, hv⟩, _⟩ := (show ObjOk X.prog X.w H s.heap a (exF D (some dd) oe) from I.hok a _ ea)
      obtain ⟨mA, hns, hr⟩ := (show ObjOk X.prog X.w H s.heap dd (.xd fs) from I.hok dd _ ed)
      obtain ⟨od, ho, hl⟩ := lookIn_ns hns
      have J : PySem.W.InstAt s.heap a oe D (some od) := ⟨hget, hz.1, by unfold PySem.W.notCls; rw [hv] <;> rfl, by rw [hz.2]; exact ho⟩
      have hf : findObj X.K D (some od) "__class__" = some (.bind (.builtin "getset_descriptor.__get__") (.builtin "object.__class__")) := findObj_data (by obtain ⟨cd, hc, _⟩ := any_some C.hd; rw [hc]; rfl) C.ha C.hn C.ht
      exact PySem.W.kia_one (kitx_excO C hf) I.kIn J e (fun z => nomatch z) fun tk => ⟨.bl b, H, I.kept (t' := tk) fun _ _ z => z, rfl, q⟩
end BF
/-! ## the call that hands a caught exception on -/
namespace BF
open PySem PySem.Spec PyProof.Rows L2
/-- f(e), e the exception that the suite holds; the def keeps sp -/
def tCallX (a C : Addr) (d : Option Addr) (oe : Obj) (sp : Sp) (te : TE) : TE := fun σ H Q => te σ H fun x H1 => x = .ref a ∧ sp [.ref a] (upd H1 a (exF C d oe)) (fun v H' => Q v (delA H' a)) C8.E0
section
variable {X : Cx} {a C : Addr} {oe : Obj} {d : Option Addr} {pn : List (Addr × Obj)} {e : Expr} {te : TE} {p pos : Pos} {x : Str} {k : Nat} {f : Addr} {fd : FuncData} {ps : List Str} {sp : Sp}
theorem pe_callX (hs : X.stack = X.env :: X.outer) (hf : X.env.frame = some X.env.locals) (hbase : X.base.get? a = none) (hz : Zc (.ref C) d oe) (hd : ∃ vs, oe.data = .fields vs)
    (F : FnOk X.prog X.w X.K X.mg X.base CX0 k f fd ps sp) (hr : Room k (X.suite a ((a, oe) :: pn)).A) (hg : Gl (X.suite a ((a, oe) :: pn)) x) (hm : X.mg x = some (.ref f)) (hk : PySem.W.keepIn X.K (.ref f) = true) (hb : Binds X.K fd ps [])
    (he : PE (X.suite a ((a, oe) :: pn)) e te) (hdb : (x == ("__debug__" : Str)) = false := by decide) (hst : starEach [e] X.env = (false, eval e X.env) :: starEach [] X.env := by rfl) (hpl : (backTo pos (starEach [] X.env)).any (·.1) = false := by rfl) :
    PE (X.suite a ((a, oe) :: pn)) (.Call (.Name x p) [e] [] pos) (tCallX a C d oe sp te) := by
  refine ⟨fun pins s σ H Q I h => ?_⟩
  refine wpAny_Call_Name_kw (ld_glob I hg hm ?_ hdb)
  have hx : wpAny (model X.prog X.w) (X.suite a ((a, oe) :: pn)).A _ _ _ s := (pa_weak (pa_cons he pa_nil hst)).run pos pins s σ H (fun vs H1 => vs = [.ref a] ∧ sp [.ref a] (upd H1 a (exF C d oe)) (fun v H' => Q v (delA H' a)) C8.E0) I
    ⟨fun vs H1 => match vs with
      | [x] => x = .ref a ∧ sp [.ref a] (upd H1 a (exF C d oe)) (fun v H' => Q v (delA H' a)) C8.E0
      | _ => False, h, fun vs H1 k => match vs, k with
      | [_], ⟨e, k⟩ => ⟨by rw [e], k⟩⟩
  refine PySem.W.callWith_K (h₀ := X.base) I.ok.mod.kin hk (thn hx fun us s1 ⟨vs, H1, I1, r, ev, q⟩ => ⟨I1.kIn, ?_⟩) hst hpl
  subst ev
  obtain ⟨g1, g2, g3, g4, _⟩ := I1.pin (a, oe) (List.mem_append_left _ List.mem_cons_self)
  refine run_fnX (X := X.suite a ((a, oe) :: pn)) (u := .ext fun _ => Zc (.ref C) d oe ∧ ∃ vs, oe.data = .fields vs) F hr hb I1 r g1 g2 hbase (fun z => ?_) ⟨⟨hz, hd⟩, ⟨oe, g1⟩, fun _ _ h _ => h⟩ q
  have z : a ∈ frs X.stack := z
  rw [hs] at z
  obtain ⟨e', m, k'⟩ := List.mem_filterMap.mp z
  rcases List.mem_cons.mp m with rfl | m
  · rw [hf] at k'
    exact g3 (Option.some.inj k').symm
  · exact g4 (List.mem_filterMap.mpr ⟨e', m, k'⟩)
end
end BF
/-! ## try with one named clause; what is caught is new above the written part -/
namespace BF
open PySem PySem.Spec PyProof.Rows L2
def wAs1 (K : PySem.W.Frag) (c : Value) (i : Nat) (ts : ClS) (D : Ends) : WX := fun cls d σ H => PySem.W.exmOne K cls c = some true ∧ ∀ a, H a = none → ts a cls d (unEnd i D) (σ.set i (some (.ref a))) H
section
variable {X : Cx} {pins : List (Addr × Obj)} {σ : L2.St} {H : Hp} {D : Ends}
theorem clause_asB {sI t : Shared} {B h : Heap} {a : Addr} {cls : Value} {d : Option Addr} {x n : Str} {c : Value} {i : Nat} {b : Bool} {b₀ : Stmt} {suite : List Stmt} {np pos' : Pos} {rest : List ExceptHandler} {ts : ClS} (hs : X.stack = X.env :: X.outer) (hf : X.env.frame = some X.env.locals)
    (hN : X.N.Nodup) (hi : X.N[i]? = some n) (hln : X.env.kindOf n = some .local) (hc : Names X x c)
    (hsu : ∀ (a : Addr) (oe : Obj) (cls : Value) (d : Option Addr) (pn : List (Addr × Obj)), X.base.get? a = none → Zc cls d oe → (∃ vs, oe.data = .fields vs) → PSs (X.suite a ((a, oe) :: pn)) (b₀ :: suite) (ts a cls d))
    (J : Inv X pins σ H sI) (nb : ∀ b o, sI.heap.get? b = some o → b ∉ frs X.stack → B.get? b = some o)
    (f : HandSPX.FlyingZ B (X.env :: X.outer) a (Zc cls d) h) (up : sI.heap.UpToSlots h) (na : H a = none) (os : t.os = sI.os) (ag : AllBare t.gens) (hx : PySem.W.exmOne X.K cls c = some b)
    (yes : b = true → ts a cls d (unEnd i D) (σ.set i (some (.ref a))) H) (no : b = false → wpAny (model X.prog X.w) X.A (handleBy (.ref a) X.env rest) (SP X pins D) X.xe { t with heap := h }) :
    wpAny (model X.prog X.w) X.A (handleBy (.ref a) X.env (.ExceptHandler (some (.Name x np)) (some n) (b₀ :: suite) pos' :: rest)) (SP X pins D) X.xe { t with heap := h } := by
  obtain ⟨J1, o, vs, g, z, fd, S⟩ := fly_suite hs hf J nb f up na os ag
  have hbase : X.base.get? a = none := by
    cases e : X.base.get? a with
    | none => rfl
    | some o0 =>
      have e2 := nb a o0 (J.bk a o0 e) (by rw [hs]; exact (fly_out f).1)
      have e3 : B.get? a = none := f.2.1
      rw [e3] at e2
      cases e2
  refine wpAny_handleBy_cons (codeAny_handlers_test ?_) (by intro q; cases q)
  have lk : PySem.W.Looks (model X.prog X.w) h (typeOf (.ref a)) cls := fun _ _ _ _ k q => wpAny_typeOf_ref (k _ _ g) (by rw [z.1]; exact q)
  have name : ∀ {R E : Value → Shared → Prop}, R c { t with heap := h } → wpAny (model X.prog X.w) (X.A.mark (some (.ref a))) (eval (.Name x np) X.env) R E { t with heap := h } := fun {R E} q => by
    rcases hc with ⟨gl, dbg, m | ⟨m, v, ne⟩⟩
    · exact ld_glob S gl m q dbg
    · exact ld_blt S gl m v q ne dbg
  refine name (PySem.W.Looks.here (PySem.W.exm_one (M := model X.prog X.w) J1.kIn lk hx) ?_)
  cases b with
  | false => exact no rfl
  | true =>
    refine codeAny_handlers_suite_as (HandSPX.lands_againZ f fun h2 f2 up2 => ?_)
    obtain ⟨_, o2, vs2, g2, z2, fd2, S2⟩ := fly_suite (t := t) hs hf J nb f2 (up.trans up2) na os ag
    refine store_ok (X := X.suite a ((a, o2) :: (X.pn ++ pins))) (v := .ref a) S2 hN hi (.inl hln) rfl (fun u U => ?_) (.inr hln)
    refine wpAny_mono ((hsu a o2 cls d (X.pn ++ pins) hbase z2 ⟨_, fd2⟩).run [] u _ H _ U (yes rfl)) (fun fl u2 r => ?_) (fun _ _ w => w.elim)
    have fin : ∀ {τ : L2.St} {G : Hp} {R : Shared → Prop}, Inv (X.suite a ((a, o2) :: (X.pn ++ pins))) [] τ G u2 → (∀ u3, Inv X pins (τ.set i none) G u3 → R u3) →
        wpAny (model X.prog X.w) X.A (do bindName X.env n .none; unbindBehindTheSuite X.env n pos') (fun _ u3 => R u3) X.xe u2 := fun V k => gone_ok (Inv.unsuite V J.ok) hN hi hln k
    cases fl with
    | ret w =>
      obtain ⟨v, τ, G, V, rv, q⟩ := r
      exact fin V fun _ V3 => ⟨v, _, _, V3, rv, q⟩
    | next =>
      obtain ⟨τ, G, V, q⟩ := r
      exact fin V fun _ V3 => ⟨_, _, V3, q⟩
    | brk =>
      obtain ⟨τ, G, V, q⟩ := r
      exact fin V fun _ V3 => ⟨_, _, V3, q⟩
    | cont =>
      obtain ⟨τ, G, V, q⟩ := r
      exact fin V fun _ V3 => ⟨_, _, V3, q⟩
theorem ps_try_as1B {x n : Str} {c : Value} {i : Nat} {body suite : List Stmt} {b₀ : Stmt} {np pos pos1 : Pos} {tb : WX → TS} {ts : ClS} (hs : X.stack = X.env :: X.outer) (hf : X.env.frame = some X.env.locals)
    (hN : X.N.Nodup) (hi : X.N[i]? = some n) (hln : X.env.kindOf n = some .local) (hc : Names X x c)
    (hb : ∀ (W : WX) (pn : List (Addr × Obj)) (xe : Value → Shared → Prop), Takes (X.tr pn xe) W → PassesOwn (model X.prog X.w) X.A X.env xe → PSs (X.tr pn xe) body (tb W))
    (hsu : ∀ (a : Addr) (oe : Obj) (cls : Value) (d : Option Addr) (pn : List (Addr × Obj)), X.base.get? a = none → Zc cls d oe → (∃ vs, oe.data = .fields vs) → PSs (X.suite a ((a, oe) :: pn)) (b₀ :: suite) (ts a cls d)) :
    PS X (.Try body [.ExceptHandler (some (.Name x np)) (some n) (b₀ :: suite) pos1] [] [] pos) (fun D σ H => tb (wAs1 X.K c i ts D) D σ H) := by
  refine ⟨fun pins s σ H D I q => wpAny_Try_except ?_⟩
  refine wpAny_mono ((hb (wAs1 X.K c i ts D) (X.pn ++ pins) (fun e s₁ => wpAny (model X.prog X.w) X.A (noteFrame e X.env) (fun _ s₂ => wpAny (model X.prog X.w) X.A (setFlight e none) (fun _ s₃ =>
    wpAny (model X.prog X.w) X.A (handleBy e X.env [.ExceptHandler (some (.Name x np)) (some n) (b₀ :: suite) pos1]) (SP X pins D) X.xe s₃) X.xe s₂) X.xe s₁) ?_ PassesOwn.looking).run [] s σ H D (I.toTry _) q) ?_ (fun _ _ r => r)
  · rintro u t ⟨a, B, sI, pins1, τ, G, cls, d, rfl, J, nb, up, sky, na, os, ag, hx, yes⟩
    have J := J.ofTry I.ok
    refine Sky.land (Z := Zc cls d) (B := B) (a := a) Zc.steady (by rw [I.ok.frames, hs]) hf (by rw [← hs]; exact sky) fun h f up' => ?_
    exact clause_asB (t := t) hs hf hN hi hln hc hsu J nb f (up.trans up') na os ag hx (fun _ => yes a na) nofun
  · intro fl t r
    cases fl with
    | ret v =>
      obtain ⟨w, τ, G, V, rv, k⟩ := r
      exact ⟨w, τ, G, V.ofTry I.ok, rv, k⟩
    | next =>
      obtain ⟨τ, G, V, k⟩ := r
      exact wpAny_execs_nil ⟨τ, G, V.ofTry I.ok, k⟩
    | brk =>
      obtain ⟨τ, G, V, k⟩ := r
      exact ⟨τ, G, V.ofTry I.ok, k⟩
    | cont =>
      obtain ⟨τ, G, V, k⟩ := r
      exact ⟨τ, G, V.ofTry I.ok, k⟩
end
end BF
/-! ## tuple.index, sorted, set over tuples of ints and of pairs -/
namespace GA
open PySem PySem.Spec PyProof.Rows L2
theorem flat_ints (ns : List Int) : (ns.map V.int).all flatV = true := by
  rw [List.all_map]; exact List.all_eq_true.mpr fun _ _ => rfl
def rTIx (K : PySem.W.Frag) : V → List V → Hp → VK → Prop := fun x xs H Q => ∃ (p : Addr) (ns : List Int) (k : Int) (j : Nat), x = .ref p ∧ xs = [.int k] ∧ SqT K H p (ns.map V.int) ∧ ns[j]? = some k ∧ (∀ m, m < j → ns[m]? ≠ some k) ∧ Q (.int (j : Nat)) H
theorem mt_tix {X : Cx} : MtR X "tuple.index" (rTIx X.K) := by
  intro pins s σ H x xs v us Q I rx rs h
  obtain ⟨p, ns, k, j, rfl, rfl, hT, hj, hno, q⟩ := h
  cases rx
  obtain ⟨u, rfl, t, rfl⟩ := vals1 rs
  obtain ⟨items, rv, ⟨⟨c0, d0, dt, sl⟩, ho, hc, n, hd⟩, _⟩ := I.tuple hT
  simp only at hc hd
  subst hc hd
  have hl : items.toArray.size = ns.length := by rw [List.size_toArray, ← rv.length, List.length_map]
  have hjl : j < items.toArray.size := hl ▸ (List.getElem?_eq_some_iff.mp hj).1
  have look : ∀ (m : Nat) (hm : m < items.toArray.size), ∃ y t', ns[m]? = some y ∧ items.toArray[m] = Value.int y t' := fun m hm => by
    have hm' : m < ns.length := hl ▸ hm
    obtain ⟨z, hz, t', e⟩ := rv.get (i := m) (x := .int ns[m]) (by simp [hm'])
    refine ⟨ns[m], t', List.getElem?_eq_getElem hm', ?_⟩
    rw [← e, ← (List.getElem?_eq_some_iff.mp hz).2]; simp
  refine call_meets PySem.F.slot_tuple_index ⟨_, ho, rfl⟩ PySem.F.entry_tuple_index (PySem.F.args_tuple_index_2 _ _) (TI.tuple_indexAt p items.toArray n d0 sl (.int k t) (eqU (.int k)) j hjl ?_ ?_)
    ⟨ho, fun z hz => mem_eqAt (x := .int k) ⟨t, rfl⟩ rfl rv (flat_ints ns) z (by simpa using hz), ⟨.int (j : Nat), H, I.tok _, ⟨_, rfl⟩, q⟩⟩
  · obtain ⟨y, t', h1, h2⟩ := look j hjl
    rw [hj] at h1; cases h1
    rw [h2]; exact (decide_eq_true rfl : decide (k = k) = true)
  · intro m hm hmj
    obtain ⟨y, t', h1, h2⟩ := look m hm
    rw [h2]
    exact (decide_eq_false fun e => hno m hmj (e ▸ h1) : decide (y = k) = false)
end GA
/-! ## sorted of a tuple of ints -/
namespace GA
open PySem PySem.Spec PyProof.Rows L2 Srt SrtO
section
variable {prog : Program} {w : World} {A : Around} {E : Value → Shared → Prop} {s : Shared}
theorem coll_tup {l : Addr} {o : Obj} {vs : List Value} {n : Nat} {Q : List Value → Shared → Prop} (hg : s.heap.get? l = some o) (hc : o.cls = .type "tuple") (hd : o.data = .seq vs.toArray n) (hz : vs.length ≤ sizeLine)
    (h : Q vs { s with heap := (s.heap.push (seqObj "list" #[] 0)).update s.heap.objs.size (Obj.mapSeq (· ++ vs.toArray)) }) : wpAny (model prog w) A (collect (.ref l)) Q E s := by
  have g1 : (s.heap.push (seqObj "list" #[] 0)).get? l = some o := Heap.get?_push_of_some _ hg
  have g2 : (s.heap.push (seqObj "list" #[] 0)).get? s.heap.objs.size = some (seqObj "list" #[] 0) := Heap.get?_push_size _ rfl
  unfold collect
  refine wpAny_bind (wpAny_runValue (codeAny_builtin entry_proto_collect' (show wpAny _ _ (do again (.builtin "list.__iadd__" ⟨[← newList [], .ref l], []⟩)) _ _ s from
    wpAny_bind (wpAny_newList (wpAny_pure ⟨Code.quiet_builtin _ (by decide +kernel), codeAny_builtin entry_list_iadd' ?_⟩)))))
  show wpAny _ _ (Builtin.List.listExtendWith (.ref s.heap.objs.size) (.ref l) (.ref s.heap.objs.size)) _ _ { s with heap := s.heap.push (seqObj "list" #[] 0) }
  unfold Builtin.List.listExtendWith
  have ht : (Value.type "tuple" == Value.type "tuple") = true := by rfl
  refine wpAny_bind (wpAny_typeOf (T := "tuple") ⟨o, g1, hc⟩ ?_)
  rw [if_pos (by rw [ht]; simp)]
  refine wpAny_bind (listItems_at g1 hd (wpAny_bind (listItems_at (xs := #[]) (n := 0) g2 rfl ?_)))
  rw [if_neg (by simp)]
  refine wpAny_bind (listUpdate_at (xs := #[]) (n := 0) g2 rfl ?_ (Nat.zero_le _) (by show (#[] ++ vs.toArray).size ≤ sizeLine + 1; simp only [Array.size_append, List.size_toArray, List.length_nil]; omega))
  refine wpAny_pure (show wpAny (model prog w) A (do
      let o ← load s.heap.objs.size
      match o.data with
      | .seq xs _ => pure xs.toList
      | _ => unsupported "internal:collect") Q E { s with heap := (s.heap.push (seqObj "list" #[] 0)).update s.heap.objs.size (Obj.mapSeq (· ++ vs.toArray)) } from wpAny_bind (wpAny_load (get?_update_seq g2 _) ?_))
  show wpAny _ _ (pure ((#[] : Array Value) ++ vs.toArray).toList) Q E _
  rw [show ((#[] : Array Value) ++ vs.toArray).toList = vs by simp]
  exact wpAny_pure h
theorem sorted_tup {l : Addr} {o : Obj} {vs : List Value} {ns : List Int} {n : Nat} {Q : Value → Shared → Prop} (hg : s.heap.get? l = some o) (hc : o.cls = .type "tuple") (hd : o.data = .seq vs.toArray n) (hi : IntsAre vs ns) (hz : vs.length ≤ sizeLine)
    (h : ∀ (out : List Value) (ns' : List Int), IntsAre out ns' → ns'.Perm ns → ns'.Pairwise (· ≤ ·) → Q (.ref (s.heap.objs.size + 1)) { s with heap := sortedAll s.heap vs out.toArray }) :
    wpAny (model prog w) A (call (.builtin "sorted") [.ref l]) Q E s := by
  refine Calls.call_function_entry kind_sorted plain_sorted entry_sorted (args_sorted1 _) ?_
  unfold Builtin.«sorted»
  refine wpAny_bind (m := checkCount "sorted" 1 1 _) (wpAny_pure (wpAny_bind (coll_tup hg hc hd hz (wpAny_bind (wpAny_newList ?_ hz)))))
  have sz : ((s.heap.push (seqObj "list" #[] 0)).update s.heap.objs.size (Obj.mapSeq (· ++ vs.toArray))).objs.size = s.heap.objs.size + 1 := by rw [Heap.size_update, size_push']
  have at1 : (((s.heap.push (seqObj "list" #[] 0)).update s.heap.objs.size (Obj.mapSeq (· ++ vs.toArray))).push (seqObj "list" vs.toArray 0)).get? (s.heap.objs.size + 1) = some (seqObj "list" vs.toArray 0) := by
    rw [← sz]; exact Heap.get?_push_size _ rfl
  show wpAny _ _ _ _ _ { s with heap := ((s.heap.push (seqObj "list" #[] 0)).update s.heap.objs.size (Obj.mapSeq (· ++ vs.toArray))).push (seqObj "list" vs.toArray 0) }
  rw [sz]
  refine wpAny_bind (wpAny_holding (wpAny_call_entry slot_list_sort ⟨_, at1, rfl⟩ entry_list_sort (list_sort_ord swo_int at1 hz (fun h2 => ints_sortable hi h2) fun out h1 hb => ⟨_, rfl, wpAny_pure ⟨_, rfl, ?_⟩⟩) (args_list_sort _)))
  obtain ⟨k1, k2, k3⟩ := ints_out hi h1 hb
  exact h out _ k1 k2 k3
end
/-- sorted(t), t a tuple of ints -/
def rSrtT (K : PySem.W.Frag) : List V → Hp → VK → Prop := fun vs H Q => ∃ (a : Addr) (ns : List Int), vs = [V.ref a] ∧ SqT K H a (ns.map V.int) ∧
  ∀ (ns' : List Int) (p : Addr), ns'.Perm ns → ns'.Pairwise (· ≤ ·) → H p = none → Q (.ref p) (upd H p (.lst (ns'.map V.int)))
theorem cr_srtT {X : Cx} : CallR X (.builtin "sorted") (rSrtT X.K) := by
  intro pins s σ H vs us Q I r h
  obtain ⟨a, ns, rfl, hs, q⟩ := h
  obtain ⟨its, rv, ⟨o, ho, hc, n, hd⟩, hz⟩ := I.tuple hs
  rw [Vals.ref1 r]
  have hz' : its.length ≤ sizeLine := by rw [← rv.length]; exact hz
  refine sorted_tup ho hc hd rv.ints hz' fun out ns' hI pm pw => ?_
  obtain ⟨ep, he⟩ := PyProof.Rows.sortedAll_at s.heap its out.toArray
  have hlen : (ns'.map V.int).length ≤ sizeLine := by
    rw [List.length_map, pm.length_eq]
    rw [List.length_map] at hz; exact hz
  exact ⟨.ref _, upd H (s.heap.objs.size + 1) (.lst (ns'.map V.int)), I.laid (t' := s.toks) (fun _ _ => PyProof.Rows.sortedAll_old) (Nat.le_succ _) ⟨hlen, out, ep, vals_of_ints hI, he⟩, rfl, q _ _ pm pw (I.hok.fresh (Nat.le_succ _))⟩
end GA
/-! ## len(set(t)), t a tuple of ints or of tuples of ints -/
namespace GA
open PySem PySem.Spec PyProof.Rows L2
theorem card_le {α : Type} [DecidableEq α] : ∀ {ks ns : List α}, ks.Nodup → (∀ x ∈ ks, x ∈ ns) → ks.length ≤ ns.length
  | [], _, _, _ => Nat.zero_le _
  | k :: ks, ns, nd, h => by
    obtain ⟨n1, n2⟩ := List.nodup_cons.mp nd
    have hk : k ∈ ns := h k List.mem_cons_self
    have := card_le (ks := ks) (ns := ns.erase k) n2 fun x hx => (List.mem_erase_of_ne (show x ≠ k from fun e => n1 (by rw [← e]; exact hx))).mpr (h x (List.mem_cons_of_mem _ hx))
    rw [List.length_erase_of_mem hk] at this
    have := List.length_pos_of_mem hk
    rw [List.length_cons]
    omega
theorem card_eq {α : Type} [DecidableEq α] {ks ns : List α} (nd : ks.Nodup) (h1 : ∀ x ∈ ks, x ∈ ns) (h2 : ∀ x ∈ ns, x ∈ ks) : ks.length ≤ ns.length ∧ (ks.length = ns.length ↔ ns.Nodup) := by
  refine ⟨card_le nd h1, fun e => ?_, fun hn => Nat.le_antisymm (card_le nd h1) (card_le hn h2)⟩
  have key : ∀ {ms : List α}, ¬ ms.Nodup → ∃ x, x ∈ ms ∧ x ∈ ms.erase x := by
    intro ms
    induction ms with
    | nil => intro h; exact absurd List.nodup_nil h
    | cons m ms ih =>
      intro h
      by_cases hm : m ∈ ms
      · exact ⟨m, List.mem_cons_self, by rw [List.erase_cons_head]; exact hm⟩
      · obtain ⟨x, x1, x2⟩ := ih fun q => h (List.nodup_cons.mpr ⟨hm, q⟩)
        refine ⟨x, List.mem_cons_of_mem _ x1, ?_⟩
        have ne : ¬ (m == x) = true := fun e => hm (by rw [eq_of_beq e]; exact x1)
        rw [List.erase_cons_tail ne]
        exact List.mem_cons_of_mem _ x2
  refine Classical.byContradiction fun hn => ?_
  obtain ⟨x, x1, x2⟩ := key hn
  have := card_le (ks := ks) (ns := ns.erase x) nd fun y hy => by
    by_cases e : y = x
    · rw [e]; exact x2
    · exact (List.mem_erase_of_ne e).mpr (h1 y hy)
  rw [List.length_erase_of_mem x1] at this
  have := List.length_pos_of_mem x1
  omega
section
variable {P : Program} {w : World} {A : Around} {E : Value → Shared → Prop} {s : Shared}
set_option maxHeartbeats 3200000 in
theorem call_set_tupT {l : Addr} {items : Array Value} (ks : List (Addr × List Int)) {Q : Value → Shared → Prop} (gHh : A.handled = none) (gL : s.heap.IsTuple l items) (gIt : items.toList = ks.map fun p => Value.ref p.1)
    (gK : ∀ p ∈ ks, IsT P w s.heap p.2 p.1) (gFew : ks.length < 64) (gU : A.units + 3 < cLine)
    (h : ∀ (h' : Heap) (tk : Nat) L es ep t, SetTR P w h' s.heap.objs.size L es ep t → Got ks ks.length L →
      (∀ b o, s.heap.get? b = some o → h'.get? b = some o) → Q (.ref s.heap.objs.size) { s with heap := h', toks := tk }) : wpAny (model P w) A (call (.type "set") [.ref l]) Q E s := by
  have eSz : items.size = ks.length := by
    have q := congrArg List.length gIt
    skip; rw [Array.length_toList, List.length_map] at q
    exact q
  obtain ⟨c, tail0, eMro⟩ := F.called_set.mro
  have eMade := F.called_set.made
  have eSub := F.called_set.sub
  skip; refine wpAny_call (codeAny_of_tree ?_)
  skip; show wpAny _ _ (callAny (.type "set") _) _ _ _
  skip; refine wpAny_pure ⟨Code.quiet_builtin _ (by decide +kernel), codeAny_builtin F.entry_type_call ?_⟩
  skip; rw [Around.under_plain (weight_type_call_type "set" [.ref l] []) rfl]
  skip; have h1 := F.called_set.notType
  skip; have h2 := F.called_set.canCreate
  have eCt := F.typeCall_set_1 (.ref l)
  skip; repeat (any_goals (first | assumption | wp_step))

  refine codeAny_mono (code_set_led1 (.ref l) (E := E) (Q₁ := fun obj s₁ => obj = .ref s.heap.objs.size ∧ s₁ = { s with heap := s.heap.push { cls := .type "set", dict := none, data := .set #[] 0 (.fresh 0 0 (!w.params.followText "set-order")) } }) ⟨rfl, rfl⟩) fun r s₁ eR => ?_
  cases r with
  | error e => exact eR
  | ok fl =>
    cases fl with
    | ret obj =>
      obtain ⟨rfl, rfl⟩ := eR
      have gS : (s.heap.push { cls := .type "set", dict := none, data := .set #[] 0 (.fresh 0 0 (!w.params.followText "set-order")) }).get? s.heap.objs.size = some { cls := .type "set", dict := none, data := .set #[] 0 (.fresh 0 0 (!w.params.followText "set-order")) } := Heap.get?_push_size _ rfl
      have gT : Shared.TypeIs { s with heap := s.heap.push { cls := .type "set", dict := none, data := .set #[] 0 (.fresh 0 0 (!w.params.followText "set-order")) } } (.ref s.heap.objs.size) "set" := ⟨_, gS, rfl⟩
      have eLi := F.called_set.init.lookup
      have eBi := F.called_set.init.bind (.ref s.heap.objs.size)
      skip; repeat (any_goals (first | assumption | wp_step))

      skip; refine codeAny_mono (codeAny_call_builtin (R := wants (fun r s₂ => r = .none ∧ ∃ h' tk L es ep t, s₂ = { s with heap := h', toks := tk } ∧ SetTR P w h' s.heap.objs.size L es ep t ∧ Got ks ks.length L ∧
          (∀ b o, s.heap.get? b = some o → h'.get? b = some o)) E) F.called_set.init.plain F.entry_set_init (check_set_init_1 gT ?_)) fun r₂ s₂ eR2 => ?_
      · obtain ⟨ob0, gO, gC, nn, gD⟩ := gL
        obtain ⟨c0, d0, dt0, sl0⟩ := ob0
        simp only at gC gD
        subst gC; subst gD
        have gO1 : (s.heap.push { cls := .type "set", dict := none, data := .set #[] 0 (.fresh 0 0 (!w.params.followText "set-order")) }).get? l = some { cls := .type "tuple", dict := d0, data := .seq items nn, slots := sl0 } := Heap.get?_push_of_some _ gO
        have eS1 := F.sub_tuple_set
        have eS2 := F.sub_tuple_frozenset
        have eNe : (Value.type "tuple" == Value.type "dict") = false := by decide
        have gl1 : (s.heap.push { cls := .type "set", dict := none, data := .set #[] 0 (.fresh 0 0 (!w.params.followText "set-order")) }).IsTuple l items := ⟨_, gO1, rfl, nn, rfl⟩
        skip; unfold Builtin.«set.__init__» noKeywords Builtin.Frozenset.updateFrom
        generalize ePI : pyIter = PI
        wp_walk
        subst ePI

        refine wpAny_pyIter_tuple gl1 ?_
        skip; refine wpAny_bind (wpAny_runValue ?_)
        have gLt : l < s.heap.objs.size := Heap.lt_size gO
        have gH3 : A.in1.in1.in1.handled = none := by simp [gHh]
        have gZ1 : (s.heap.push { cls := .type "set", dict := none, data := .set #[] 0 (.fresh 0 0 (!w.params.followText "set-order")) }).objs.size = s.heap.objs.size + 1 := Heap.size_push ..
        have gNe : l ≠ (s.heap.push { cls := .type "set", dict := none, data := .set #[] 0 (.fresh 0 0 (!w.params.followText "set-order")) }).objs.size := by
          rw [Heap.size_push]; exact Nat.ne_of_lt (Nat.lt_succ_of_lt gLt)
        have gSf : s.heap.objs.size ∉ [(s.heap.push { cls := .type "set", dict := none, data := .set #[] 0 (.fresh 0 0 (!w.params.followText "set-order")) }).objs.size, l] := by
          skip; rw [Heap.size_push]; simp only [List.mem_cons, List.mem_singleton, List.not_mem_nil, or_false, not_or]
          exact ⟨Nat.ne_of_lt (Nat.lt_succ_self _), Nat.ne_of_gt gLt⟩
        have gVal : ∀ (i : Nat) (v : Value), items[i]? = some v → ∃ p, ks[i]? = some p ∧ v = .ref p.1 := fun i v hv => by
          skip; have q : items.toList[i]? = some v := by rw [Array.getElem?_toList]; exact hv
          rw [gIt, List.getElem?_map] at q
          cases hq : ks[i]? with
          | none => (rw [hq] at q; cases q)
          | some p =>
            rw [hq] at q
            skip; exact ⟨p, rfl, (Option.some.inj q).symm⟩
        have gNone : ∀ b, s.heap.objs.size ≤ b → s.heap.get? b = none := fun b hb => by
          cases q : s.heap.get? b with
          | none => rfl
          | some o => exact (Nat.lt_irrefl _ (Nat.lt_of_lt_of_le (Heap.lt_size q) hb)).elim
        refine set_update_tups ((Walks.tuple gH3 _ l gNe items).toS) s.heap.objs.size
          gSf ks eSz gFew gVal s.heap gK (gNone _ (Nat.le_refl _)) (fun b hb => gNone b (by
            skip; rw [List.mem_singleton.mp hb, Heap.size_push]
            exact Nat.le_succ _)) gU (items.size - 0) 0 _ (by omega) (Nat.zero_le _)
          ⟨⟨_, Heap.get?_push_size _ rfl, rfl, rfl⟩, (gl1.push _)⟩ (fun b o e => Heap.get?_push_of_some _ (Heap.get?_push_of_some _ e)) ?hS0 ?hR
        case hS0 =>
          have gGet : ((s.heap.push { cls := .type "set", dict := none, data := .set #[] 0 (.fresh 0 0 (!w.params.followText "set-order")) }).push { cls := .type "tuple_iterator", data := .fields #[.ref l, .int 0 0] }).get? s.heap.objs.size
              = some { cls := .type "set", dict := none, data := .set #[] 0 (.fresh 0 0 (!w.params.followText "set-order")) } := Heap.get?_push_of_some _ gS
          exact ⟨[], #[], 0, _, setTR_fresh gGet, Got.zero ks⟩
        case hR =>
          intro s' L es ep t gM gS2 gGot gKp
          skip; obtain ⟨h', g2, d', tk', os'⟩ := s'
          have eg : g2 = s.gens := gM.gens
          have ed : d' = s.drawn := gM.drawn
          have eo : os' = s.os := gM.os
          subst eg; subst ed; subst eo
          show wpAny _ _ _ _ _ _
          refine wpAny_pure ?_
          skip; show wpAny _ _ (ret Value.none) _ _ _
          rw [eSz] at gGot
          exact wpAny_pure ⟨rfl, h', tk', L, es, ep, t, rfl, gS2, gGot, gKp⟩

      · cases r₂ with
        | error e => exact eR2
        | ok fl₂ =>
          cases fl₂ with
          | ret r =>
            obtain ⟨rfl, h', tk, L, es, ep, t, rfl, gS2, gGot, gK2⟩ := eR2
            skip; repeat (any_goals (first | assumption | wp_step))
            exact h _ _ _ _ _ _ gS2 gGot gK2
          | _ => exact eR2.elim
    | _ => exact eR.elim
end
/-- len(set(t)), t a tuple of ints -/
def tLsI (K : PySem.W.Frag) (ta : TE) : TE := fun σ H Q => ta σ H fun x H1 => ∃ (p : Addr) (ns : List Int), x = .ref p ∧ SqT K H1 p (ns.map V.int) ∧ ns.length ≤ 1000 ∧ ∀ c : Nat, c ≤ ns.length → (c = ns.length ↔ ns.Nodup) → Q (.int c) H1
theorem pe_lsI {X : Cx} {a : Expr} {ta : TE} {p p2 q pos : Pos} (hc : X.calm = true) (hg : Gl X "len") (hm : X.mg "len" = none) (hg2 : Gl X "set") (hm2 : X.mg "set" = none) (ha : PE X a ta)
    (na : starEach [a] X.env = (false, eval a X.env) :: starEach [] X.env := by rfl) : PE X (.Call (.Name "len" p) [.Call (.Name "set" p2) [a] [] q] [] pos) (tLsI X.K ta) := by
  refine ⟨fun pins s σ H Q I h => Call_ (ld_blt I hg hm PySem.boot_len (PyProof.Rows.callWith_builtin1 (PyProof.Rows.args_cons (Call_ (ld_blt I hg2 hm2 PyProof.Rows.boot_set
    (PyProof.Rows.callWith_type1 (PyProof.Rows.args_cons (thn (ha.run pins s σ H _ I h) fun v s1 ⟨x, H1, I1, r1, q1⟩ => PyProof.Rows.args_nil ?_) na) na rfl))) rfl) rfl rfl))⟩
  obtain ⟨t, ns, rfl, hT, hl, q1⟩ := q1
  cases r1
  obtain ⟨its, rv, pl, hz⟩ := I1.tuple hT
  refine call_set_tupI ns (I1.ok.hd hc) pl (by simpa using rv.ints) (by unfold scanBound; omega) fun h' tk c R hcl keep => PyProof.Rows.args_nil ?_
  obtain ⟨o, es, ep, tb, ho, hex, hd, _, nd, mem, _, hf, hn, _, _⟩ := R
  have e1 : (es.toList.map keyOf).length = c := by rw [List.length_map, Array.length_toList, hn]
  have q := card_eq (ks := es.toList.map keyOf) (ns := ns) nd (fun x hx => of_decide_eq_true ((mem x).mpr hx)) fun x hx => (mem x).mp (decide_eq_true hx)
  rw [e1] at q
  have I2 : Inv X pins σ H1 { s1 with heap := h', toks := tk } := I1.kept keep
  exact call_len_set ho hex hd hf (by rw [hn] <;> omega) ⟨.int c, H1, I2.tok _, ⟨_, by rw [hn]⟩, q1 c q.1 q.2⟩
/-- len(set(t)), t a tuple of tuples of ints -/
def tLsT (K : PySem.W.Frag) (ta : TE) : TE := fun σ H Q => ta σ H fun x H1 => ∃ (p : Addr) (ks : List (Addr × List Int)), x = .ref p ∧ SqT K H1 p (ks.map fun z => V.ref z.1) ∧ (∀ z ∈ ks, SqT K H1 z.1 (z.2.map V.int)) ∧ ks.length < 64 ∧
  ∀ c : Nat, c ≤ ks.length → (c = ks.length ↔ (ks.map (·.2)).Nodup) → Q (.int c) H1
theorem pe_lsT {X : Cx} {a : Expr} {ta : TE} {p p2 q pos : Pos} (hc : X.calm = true) (hu : X.A.units + 64 < cLine) (hg : Gl X "len") (hm : X.mg "len" = none) (hg2 : Gl X "set") (hm2 : X.mg "set" = none) (ha : PE X a ta)
    (na : starEach [a] X.env = (false, eval a X.env) :: starEach [] X.env := by rfl) : PE X (.Call (.Name "len" p) [.Call (.Name "set" p2) [a] [] q] [] pos) (tLsT X.K ta) := by
  refine ⟨fun pins s σ H Q I h => Call_ (ld_blt I hg hm PySem.boot_len (PyProof.Rows.callWith_builtin1 (PyProof.Rows.args_cons (Call_ (ld_blt I hg2 hm2 PyProof.Rows.boot_set
    (PyProof.Rows.callWith_type1 (PyProof.Rows.args_cons (thn (ha.run pins s σ H _ I h) fun v s1 ⟨x, H1, I1, r1, q1⟩ => PyProof.Rows.args_nil ?_) na) na rfl))) rfl) rfl rfl))⟩
  obtain ⟨t, ks, rfl, hT, hk, hl, q1⟩ := q1
  cases r1
  obtain ⟨its, rv, pl, hz⟩ := I1.tuple hT
  refine call_set_tupT (P := X.prog) (w := X.w) ks (I1.ok.hd hc) pl (by simpa using refs_of_vals rv) (fun z hz => I1.isT (hk z hz)) hl (by omega) fun h' tk L es ep tb R g keep => PyProof.Rows.args_nil ?_
  have q := card_eq (ks := L.map (·.2)) (ns := ks.map (·.2)) R.nd (fun x hx => by
    obtain ⟨z, hz, rfl⟩ := List.mem_map.mp hx
    exact List.mem_map.mpr ⟨z, List.mem_of_mem_take (g.sub z hz), rfl⟩) fun x hx => by
    obtain ⟨z, hz, rfl⟩ := List.mem_map.mp hx
    exact g.all z (by rw [List.take_length]; exact hz)
  rw [List.length_map, List.length_map] at q
  obtain ⟨o, ho, hex, hd⟩ := R.ob
  have I2 : Inv X pins σ H1 { s1 with heap := h', toks := tk } := I1.kept keep
  have hz : es.size = L.length := R.size (s := { s1 with heap := h', toks := tk })
  exact call_len_set ho hex hd (R.fits (s := { s1 with heap := h', toks := tk })) (by have := R.few; omega) ⟨.int L.length, H1, I2.tok _, ⟨_, by rw [hz]⟩, q1 _ q.1 q.2⟩
end GA
/-! ## enumerate of a tuple; tuples of which is known that they have no dict -/
namespace GA
open PySem PySem.Spec PyProof.Rows L2
open AutoSeq1 (wpAny_loadPart')
def itT (l : Addr) : Obj := { cls := .type "tuple_iterator", data := .fields #[.ref l, .int 0 0] }
def enT (p : Addr) : Obj := { cls := .type "enumerate", data := .fields #[.none, .bool false, .ref p, rawInt 0, .none, .none] }
theorem enum_newT (l : Addr) (items : Array Value) (n : Nat) (dct : Option Addr) (sl : Array (Option Value)) :
    Meets (Builtin.«enumerate.__new__» ⟨[.type "enumerate", .ref l], []⟩) (fun _ R s => s.heap.get? l = some { cls := .type "tuple", dict := dct, data := .seq items n, slots := sl } ∧
      R (.ok (.ret (.ref (s.heap.push (itT l)).objs.size))) { s with heap := (s.heap.push (itT l)).push (enT s.heap.objs.size) }) :=
  .of_wp fun prog w A R s h => by
    obtain ⟨hp, g, d, tk, os⟩ := s
    obtain ⟨hl, h⟩ := h
    have hsub := sub_enumerate
    have hL : Heap.IsTuple (Shared.heap ⟨hp, g, d, tk, os⟩) l items := ⟨_, hl, rfl, n, rfl⟩
    wp_walk using wpAny_loadPart' hl
    refine wpAny_stack_any fun st => wpAny_pure ?_
    split
    · rename_i c _ _ _ _ _
      cases (c == Value.type "enumerate") <;> (wp_walk using wpAny_loadPart' hl, wpAny_pyIter_tuple hL; exact ⟨_, rfl, h⟩)
    · (wp_walk using wpAny_loadPart' hl, wpAny_pyIter_tuple hL); exact ⟨_, rfl, h⟩
section
variable {prog : Program} {w : World} {A : Around} {E : Value → Shared → Prop} {s : Shared}
theorem call_enumT {l : Addr} {items : Array Value} {Q : Value → Shared → Prop} (hL : s.heap.IsTuple l items)
    (h : ∀ h', IsEnum h' (s.heap.objs.size + 1) s.heap.objs.size 0 .none → h'.IsTupleIter s.heap.objs.size l 0 → (∀ b o, s.heap.get? b = some o → h'.get? b = some o) → Q (.ref (s.heap.objs.size + 1)) { s with heap := h' }) :
    wpAny (model prog w) A (call (.type "enumerate") [.ref l]) Q E s := by
  obtain ⟨⟨c, dct, dt, sl⟩, hl, hc, n, hd⟩ := hL
  simp only at hc hd
  subst hc hd
  refine callType_new F.called_enumerate (by decide) (F.typeCall_enumerate_1 _) (F.newCall_enumerate_1 _) (fun obj => F.args_object_init_2 obj _) F.entry_enumerate_new (enum_newT l items n dct sl) ⟨hl, ?_⟩
  have hz : (s.heap.push (itT l)).objs.size = s.heap.objs.size + 1 := Heap.size_push ..
  have he : IsEnum ((s.heap.push (itT l)).push (enT s.heap.objs.size)) (s.heap.objs.size + 1) s.heap.objs.size 0 .none := by
    have q := Heap.get?_push_size (s.heap.push (itT l)) (o := enT s.heap.objs.size) rfl
    rw [hz] at q; exact q
  show _ ∧ _
  rw [hz]
  exact ⟨⟨_, he, rfl⟩, h _ he ⟨_, Heap.get?_push_of_some _ (Heap.get?_push_size _ rfl), rfl, rfl⟩ fun b o x => Heap.get?_push_of_some _ (Heap.get?_push_of_some _ x)⟩
theorem enum_over {e it t : Addr} {i : Nat} {items : Array Value} {old : Value} {Q : Option Value → Shared → Prop} (hh : A.handled = none) (he : IsEnum s.heap e it i old) (hit : s.heap.IsTupleIter it t i) (ht : s.heap.IsTuple t items) (hx : items[i]? = none)
    (hQ : ∀ h', Heap.ExtBut it s.heap h' → Q none { s with heap := h' }) : wpAny (model prog w) A (pyNext (.ref e)) Q E s := by
  unfold pyNext
  have hT : s.TypeIs (.ref e) "enumerate" := ⟨_, he, rfl⟩
  refine wpAny_bind (wpAny_attempt (wpAny_callSpecial?_slot (name := Str.ofString "__next__") hT F.slot_enumerate_next (wpAny_call_entry F.slot_enumerate_next hT F.entry_enumerate_next ?_ (F.args_enumerate_next_1 _))))
  show wpAny _ _ (field (.ref e) 2 >>= _) _ _ _
  refine wpAny_bind (wpAny_field he rfl (x := .ref it) rfl (wpAny_bind (wpAny_nextOf_tuple_end hh hit ht hx fun h' x ex ⟨o, ho, hc⟩ => ?_)))
  exact wpAny_bind (wpAny_isInstance (T := "StopIteration") (b := true) ⟨o, ho, hc⟩ isSubtype_stop (wpAny_pure (hQ _ ex)))
end
def IteT (K : PySem.W.Frag) (a : Addr) : It :=
  ⟨fun i H => ∃ (xs : List V) (x : V), SqT K H a xs ∧ xs[i]? = some x, fun i H v H' => ∃ T x, v = .ref T ∧ H T = none ∧ H' = upd H T (.tup [.int (i : Nat), x]) ∧ ∀ xs, SqT K H a xs → xs[i]? = some x, fun i H => ∃ xs : List V, SqT K H a xs ∧ xs.length ≤ i⟩
theorem turn_enumT {P : Program} {w : World} {K : PySem.W.Frag} {elts : List Expr} {kk : Nat} {tpos : Pos} (a e it : Addr) :
    Turn P w K (.Tuple elts kk tpos) (IteT K a) [e, it] e (fun i h => (∃ old, IsEnum h e it ((i : Nat) : Int) old) ∧ h.IsTupleIter it a i ∧ e ≠ it) where
  mem := List.mem_cons_self
  obj := fun i h st b hb => by
    obtain ⟨⟨old, he⟩, ⟨o, ho, hc, hd⟩, _⟩ := st
    rcases (by simpa using hb : b = e ∨ b = it) with z | z
    · rw [z]; exact ⟨_, he, fun v q => nomatch q⟩
    · rw [z]; exact ⟨o, ho, fun v q => by rw [hd] at q; cases q⟩
  keep := fun i h h' st k => let ⟨⟨old, he⟩, hi, hne⟩ := st; ⟨⟨old, k e (by simp) _ he⟩, hi.at fun o q => k it (by simp) o q, hne⟩
  item := by
    rintro X rfl rfl rfl hc i pins s σ H E I hf ⟨⟨old, he⟩, hit, hne⟩ ⟨xs, x, hq, hx⟩
    obtain ⟨its, rv, p, hz⟩ := I.tuple hq
    obtain ⟨u, hu, ru⟩ := rv.get hx
    have hel : e < s.heap.objs.size := Heap.lt_size he
    have hil : it < s.heap.objs.size := by obtain ⟨_, q, _⟩ := hit; exact Heap.lt_size q
    obtain ⟨ot, hot, hct, nt, hdt⟩ := id p
    have a1 : a ≠ it := fun z => by
      obtain ⟨o2, q1, q2, _⟩ := hit
      rw [← z, hot] at q1
      cases q1
      rw [hct] at q2
      injection q2 with q2
      exact absurd q2 (by decide)
    have a2 : e ∉ [it, a] := fun z => by
      rcases (by simpa using z : e = it ∨ e = a) with z | z
      · exact hne z
      · have he2 : s.heap.get? e = some _ := he
        rw [z, hot] at he2
        have := congrArg Obj.cls (Option.some.inj he2)
        rw [hct] at this
        injection this with q
        exact absurd q (by decide)
    have hlt : i < its.toArray.size := by
      have := (List.getElem?_eq_some_iff.mp hu).1
      simpa using this
    refine wpAny_pyNext_enum_itemD (Draws.tuple (A := X.A.in1) (show X.A.in1.handled = none from I.ok.hd hc) it a a1 its.toArray) he ⟨hit, p⟩ hlt hne a2 fun y h' tk hy ho st' hT hsz hk => ?_
    have ey : y = u := by
      have : its.toArray[i]? = some u := by simpa using hu
      rw [this] at hy
      exact (Option.some.inj hy).symm
    subst ey
    refine ⟨_, rfl, wpAny_letOwnedTupleGo_enum (s := { s with heap := h', toks := tk + 1 }) ho fun h'' he' sb => ?_⟩
    have hT2 : h''.get? s.heap.objs.size = some { cls := .type "tuple", data := .seq #[.int i tk, y] } := (sb.2 _ (Nat.ne_of_gt hel)).trans hT
    have new : ObjOk X.prog X.w (upd H s.heap.objs.size (.tup [.int (i : Nat), x])) h'' s.heap.objs.size (.tup [.int (i : Nat), x]) :=
      ⟨by show 2 ≤ sizeLine; decide, [.int i tk, y], .cons ⟨_, rfl⟩ (.cons ru .nil), ⟨_, hT2, rfl, _, rfl⟩⟩
    have I1 : Inv X pins σ (upd H s.heap.objs.size (.tup [.int (i : Nat), x])) { s with heap := h'', toks := tk + 1 } :=
      I.turnedNew (ch := [e, it]) (fun b ob hb q => (sb.2 b (fun z => hb (by simp [z]))).trans (hk b ob (fun z => hb (by simp [z])) (fun z => hb (by simp [z])) q)) hf (Nat.le_refl _) new
    refine ⟨.ref s.heap.objs.size, _, I1, rfl, ⟨_, x, rfl, I.hok.fresh (Nat.le_refl _), rfl, fun ys hy => by rw [I.tuple_inj hy hq]; exact hx⟩, ⟨⟨y, ?_⟩, st'.1.at fun o q => (sb.2 it (Ne.symm hne)).trans q, hne⟩, fun b hb => ?_⟩
    · rw [show ((i + 1 : Nat) : Int) = (i : Int) + 1 by omega]; exact he'
    · have hb' : b < s.heap.objs.size := by
        rcases (by simpa using hb : b = e ∨ b = it) with z | z
        · rw [z]; exact hel
        · rw [z]; exact hil
      rw [upd_ne (Nat.ne_of_lt hb')]
      exact (hf b hb).1
  done := by
    rintro X rfl rfl rfl hc i pins s σ H E I hf ⟨⟨old, he⟩, hit, hne⟩ ⟨xs, hq, hx⟩
    obtain ⟨its, rv, p, hz⟩ := I.tuple hq
    obtain ⟨f0, f1, f2, f3, f4, f5⟩ := hf it (by simp)
    exact enum_over (I.ok.hd hc) he hit p (by have := rv.length; simp; omega) fun h' eb => ⟨rfl, I.turned (t' := s.toks) (fun b o hb q => eb b o hb q) f0 f1 f3 f4 f5⟩
  self := fun A i s Q E st h => let ⟨⟨_, he⟩, _⟩ := st; wpAny_pyIter_enum he h
/-- enumerate(t) -/
def iEnT (K : PySem.W.Frag) (ta : TA) : TI := fun σ H R => ta σ H fun vs H1 => ∃ a xs, vs = [.ref a] ∧ SqT K H1 a xs ∧ R (IteT K a) H1
theorem pi_enT {X : Cx} {e : Expr} {ta : TA} {p pos tpos : Pos} {elts : List Expr} {kk : Nat} (hg : Gl X "enumerate") (hm : X.mg "enumerate" = none) (ha : PA X [e] ta) (hs : starEach [e] X.env = [(false, eval e X.env)] := by rfl) :
    PI X (.Tuple elts kk tpos) (.Call (.Name "enumerate" p) [e] [] pos) (iEnT X.K ta) := by
  refine ⟨fun pins s σ H R I h => Call_ (ld_blt I hg hm boot_enumerate (PyProof.Rows.callWith_type1 (thn (ha.run pos pins s σ H _ I h) fun us s1 ⟨vs, H1, I1, r1, a, xs, ex, hq, q⟩ => ?_) hs rfl))⟩
  subst ex
  cases Vals.ref1 r1
  obtain ⟨its, rv, p', hz⟩ := I1.tuple hq
  refine call_enumT p' fun h' he hit hk => wpAny_pyIter_enum he ?_
  have I2 : Inv X pins σ H1 { s1 with heap := h' } := I1.kept (t' := s1.toks) hk
  refine ⟨s1.heap.objs.size + 1, [s1.heap.objs.size + 1, s1.heap.objs.size], _, _, H1, rfl, I2, turn_enumT a (s1.heap.objs.size + 1) s1.heap.objs.size, ⟨⟨.none, he⟩, hit, Nat.succ_ne_self _⟩, fun b hb => ?_, q⟩
  have hle : s1.heap.objs.size ≤ b := by
    rcases (by simpa using hb : b = s1.heap.objs.size + 1 ∨ b = s1.heap.objs.size) with z | z
    · rw [z]; exact Nat.le_succ _
    · rw [z]; exact Nat.le_refl _
  exact I1.fpOk hle (I1.hok.fresh hle)
theorem walk_enT {K : PySem.W.Frag} {a : Addr} {xs : List V} : Walk (IteT K a) xs.length (fun H => SqT K H a xs) (YPair (fun i => some (.int (i : Nat))) (fun i => xs[i]?)) :=
  ⟨fun i _ hi q => ⟨xs, xs[i], q, by simp [hi]⟩, fun _ q => ⟨xs, q, Nat.le_refl _⟩, fun i H v H' _ q ⟨T, x, h1, h2, h3, h4⟩ => ⟨T, .int (i : Nat), x, h1, h2, h3, rfl, h4 xs q⟩⟩
/-- tuple(l): the new object as it stands -/
def rTupZ (K : PySem.W.Frag) : List V → Hp → VK → Prop := fun xs H Q => ∃ p ys, xs = [.ref p] ∧ SqL K H p ys ∧ ∀ l o, H l = none → o.dict = none → Q (.ref l) (upd H l (.frz o (.tup ys)))
theorem call_tupZ {X : Cx} : CallR X (.type "tuple") (rTupZ X.K) := by
  intro pins s σ H xs us Q I r h
  obtain ⟨p, ys, rfl, hq, q⟩ := h
  rw [Vals.ref1 r]
  obtain ⟨its, rv, pl, hz⟩ := I.list hq
  have hlen := rv.length
  refine call_tuple_list pl.isList (fun h' kp => ?_) (by simp only [List.size_toArray]; omega)
  have I1 : Inv X pins σ H { s with heap := h' } := I.kept (t' := s.toks) kp
  have I2 : Inv X pins σ (upd H h'.objs.size (.frz { cls := .type "tuple", data := .seq its.toArray } (.tup ys))) { s with heap := h'.push { cls := .type "tuple", data := .seq its.toArray } } :=
    I1.laid (t' := s.toks) (fun b o e => Heap.get?_push_of_some _ e) (Nat.le_refl _) ⟨Heap.get?_push_size _ rfl, hz, its, rv, IsTup.new _ _⟩
  exact ⟨.ref h'.objs.size, _, I2, rfl, q _ _ (I1.hok.fresh (Nat.le_refl _)) rfl⟩
/-- t.m(e, ..), t a tuple that has no dict -/
def tBMZ (r : V → List V → Hp → VK → Prop) (to : TE) (t : TA) : TE := fun σ H Q => to σ H fun x H1 => (∃ a o ys, x = .ref a ∧ H1 a = some (.frz o (.tup ys)) ∧ o.dict = none) ∧ t σ H1 fun xs H2 => r x xs H2 Q
theorem pe_bmZ {X : Cx} {o e : Expr} {es : List Expr} {to : TE} {t : TA} {name : Str} {apos cpos : Pos} {id : String} {r : V → List V → Hp → VK → Prop} (pa : PlainAttrs "tuple") (slot : Slot "tuple" name id) (hty : typeOf (.builtin id) = pure (.type "method_descriptor")) (hm : MtR X id r) (ho : PE X o to) (ha : PA X (e :: es) t)
    (hbase : attributeBase o name X.env (eval o X.env) = eval o X.env := by rfl)
    (hfew : ((backTo cpos (starEach (e :: es) X.env)).all (fun x => !x.1) && (backToKw cpos (keywordEach [] X.env)).all (fun x => x.1.isSome) && decide ((e :: es).length + ([] : List Keyword).length + (if ([] : List Keyword).isEmpty then 0 else 1) < 30)) = true := by rfl)
    (hline : (apos.endLine == cpos.line) = true := by rfl) (hs : starEach (e :: es) X.env = (false, eval e X.env) :: starEach es X.env := by rfl) (hplain : (backTo cpos (starEach es X.env)).any (·.1) = false := by rfl) :
    PE X (.Call (.Attribute o name apos) (e :: es) [] cpos) (tBMZ r to t) := by
  refine ⟨fun pins s σ H Q I h => wpAny_Call_method_late hbase hfew hline rfl (thn (ho.run pins s σ H _ I h) fun v s1 ⟨x, H1, I1, r1, ⟨a, ob, ys, ex, hx, hd⟩, q1⟩ => ?_)⟩
  subst ex
  cases r1
  obtain ⟨ha1, _, its, rv, o2, h2, hc, _⟩ := (show ObjOk X.prog X.w H1 s1.heap a (.frz ob (.tup ys)) from I1.hok a _ hx)
  rw [ha1] at h2
  cases h2
  refine ⟨"tuple", id, pa, slot, hty, ⟨_, ha1, hc⟩, fun b eb => by cases eb; exact ⟨_, ha1, hd⟩, ?_⟩
  have hA := ha.run cpos pins s1 σ H1 _ I1 q1
  rw [hs] at hA ⊢
  exact Calls.callWith_builtin (by show (false || (backTo cpos (starEach es X.env)).any (·.1)) = false; rw [hplain] <;> rfl) (Calls.evalArgs_plain (thn hA fun us s2 ⟨vs, H2, I2, r2, q2⟩ => hm pins s2 σ H2 (.ref a) vs _ us Q I2 (show RelV (.ref a) (.ref a) from rfl) r2 q2))
end GA
/-! ## enumerate(tuple), sets, sorted, max, min, tables, texts, by data -/
namespace VF
open PySem PySem.Spec PyProof.Rows L2
section
variable {K : PySem.W.Frag} {W : Wc} {X : Cx} {e tg : Expr} {wr : WA} {we wa wb : WE} {τ : ST} {n : Int} {Q : DV → ST → Int → Prop} {P : DP} {pos : Pos}
abbrev iD (ns : List Int) : List DV := ns.map DV.int
theorem ints_ofD {b : Addr} {M : List Addr} {H : Hp} : ∀ {vs : List V} {ns : List Int}, DatL K b M H vs (iD ns) → vs = ns.map V.int
  | _, [], .nil => rfl
  | _, x :: ns, .cons h l => by
    cases h
    rw [ints_ofD (ns := ns) l]
    rfl
theorem strs_ofD {b : Addr} {M : List Addr} {H : Hp} : ∀ {vs : List V} {ns : List Str}, DatL K b M H vs (ns.map DV.str) → vs = ns.map V.str
  | _, [], .nil => rfl
  | _, x :: ns, .cons h l => by
    cases h
    rw [strs_ofD (ns := ns) l]
    rfl
/-! enumerate -/
def wEnT (wr : WA) : WA := fun τ n Q => wr τ n fun ds τ1 n1 => ∃ xs, ds = [.tup xs] ∧ Q (enumD xs) τ1 n1
theorem vi_enT (h : PI X tg e (GA.iEnT K (liftA K W wr))) : PI X tg e (liftI K W (wEnT wr)) := PI.imp h fun σ H R ⟨Γ, O, τ, n, Q', q, hw, k⟩ => ⟨Γ, O, τ, n, _, q, hw, fun vs H1 ds O1 τ1 n1 q1 d1 ⟨xs, ed, hq⟩ => by
  subst ed
  cases d1 with
  | cons h1 h2 =>
    cases h2
    cases h1 with
    | @tup a us _ a1 a2 =>
      refine ⟨a, us, rfl, a1.1, k _ H1 [.t a us xs] _ O1 τ1 n1 (q1.gcons ⟨a1, a2⟩) ⟨_, _, by rw [enumD_len, ← a2.length]; exact GA.walk_enT, fun O M H g => (g _ List.mem_cons_self).1.1, fun O M H i x H' g al hi y => ?_⟩ hq⟩
      obtain ⟨T, x, z, rfl, y2, y3, y4, y5⟩ := y
      obtain ⟨d, e1, e2⟩ := (g (.t a us xs) (by simp)).2.get y5
      cases y4
      obtain ⟨p1, p2⟩ := pair_dat al y2 y3 (.int _) e2
      exact ⟨p1, _, enumD_at e1, p2⟩⟩
theorem y_enT {Q : List DV → ST → Int → Prop} (k : wr τ n fun ds τ1 n1 => ∃ xs, ds = [.tup xs] ∧ Q (enumD xs) τ1 n1) : wEnT wr τ n Q := k
/-! tuple(l) of which is known that it has no dict, and what is asked of it -/
def wTupZ : List DV → DP → Prop
  | [.lst xs], Q => Q (.tupz xs)
  | _, _ => False
theorem d_tupZ : DCall K (GA.rTupZ K) wTupZ := fun b M H xs ds Q' Q al hd hw k => by
  cases hd with
  | nil => exact hw.elim
  | cons h1 hd => cases hd with
    | cons _ _ => cases h1 <;> exact hw.elim
    | nil =>
      cases h1 with
      | @lst a us _ a1 a2 => exact ⟨_, _, rfl, SqL.of a1.1, fun l o hl ho => by
          have ex : BF.Ex [] H (upd H l (.frz o (.tup us))) := BF.Ex.new hl
          exact k (.ref l) _ _ ex (.tupz upd_same ho (al.out hl) (DatL.ey (Ey.ex0 ex) a2)) hw⟩
      | _ => exact hw.elim
theorem y_tupZ {xs : List DV} (k : P (.tupz xs)) : wTupZ [.lst xs] P := k
/-- the slot's datum without that knowledge -/
def wVarZ (i : Nat) : WE := fun τ n Q => ∃ x, τ[i]? = some (some (.d x)) ∧ Q (fgt x) τ n
theorem ve_varZ {i : Nat} (h : PE X e (tVar i)) : PE X e (liftE K W (wVarZ i)) := BF.PE.imp h fun σ H Q ⟨Γ, O, τ, n, Q', q, ⟨x, hs, hw⟩, k⟩ => by
  obtain ⟨v, hv, hd⟩ := q.slot i _ hs
  exact ⟨v, hv, k v H _ O τ n q (Dat.fgt hd) hw⟩
theorem y_varZ {i : Nat} {x y : DV} (h : τ[i]? = some (some (.d x))) (e : fgt x = y) (k : Q y τ n) : wVarZ i τ n Q := ⟨x, h, by rw [e]; exact k⟩
def wTix (wa : WE) (wr : WA) : WE := fun τ n Q => wa τ n fun d τ1 n1 => ∃ ns : List Int, d = .tupz (iD ns) ∧ wr τ1 n1 fun ds τ2 n2 => ∃ (k : Int) (j : Nat), ds = [.int k] ∧ ns[j]? = some k ∧ (∀ m, m < j → ns[m]? ≠ some k) ∧ Q (.int (j : Nat)) τ2 n2
theorem ve_tix (h : PE X e (GA.tBMZ (GA.rTIx K) (liftE K W wa) (liftA K W wr))) : PE X e (liftE K W (wTix wa wr)) := BF.PE.imp h fun σ H Q ⟨Γ, O, τ, n, Q', q, hw, k⟩ => by
  refine ⟨Γ, O, τ, n, _, q, hw, fun v H1 d O1 τ1 n1 q1 d1 ⟨ns, ed, hw1⟩ => ?_⟩
  subst ed
  have d1' := d1
  cases d1 with
  | @tupz a o vs _ h1 h2 h3 h4 =>
    have ev := ints_ofD h4
    subst ev
    refine ⟨⟨a, o, _, rfl, h1, h2⟩, .d _ _ :: Γ, O1, τ1, n1, _, q1.gcons d1', hw1, fun xs H2 ds O2 τ2 n2 q2 d2 ⟨k', j, eds, hj, hno, hq⟩ => ?_⟩
    subst eds
    have dh := q2.head
    cases d2 with
    | cons e1 e2 =>
      cases e2
      cases e1
      cases dh with
      | tupz g1 g2 g3 g4 =>
        have ev := ints_ofD g4
        subst ev
        exact ⟨a, ns, k', j, rfl, rfl, .inl (.inr ⟨_, g1⟩), hj, hno, k _ H2 _ O2 τ2 n2 q2.tail (.int _) hq⟩
theorem y_tix (k : wa τ n fun d τ1 n1 => ∃ ns : List Int, d = .tupz (iD ns) ∧ wr τ1 n1 fun ds τ2 n2 => ∃ (k : Int) (j : Nat), ds = [.int k] ∧ ns[j]? = some k ∧ (∀ m, m < j → ns[m]? ≠ some k) ∧ Q (.int (j : Nat)) τ2 n2) : wTix wa wr τ n Q := k
/-! len(set(t)) -/
def wLsI (wa : WE) : WE := fun τ n Q => wa τ n fun d τ1 n1 => ∃ ns : List Int, d = .tup (iD ns) ∧ ns.length ≤ 1000 ∧ ∀ c : Nat, c ≤ ns.length → (c = ns.length ↔ ns.Nodup) → Q (.int c) τ1 n1
theorem ve_lsI (h : PE X e (GA.tLsI K (liftE K W wa))) : PE X e (liftE K W (wLsI wa)) := BF.PE.imp h fun σ H Q ⟨Γ, O, τ, n, Q', q, hw, k⟩ => by
  refine ⟨Γ, O, τ, n, _, q, hw, fun v H1 d O1 τ1 n1 q1 d1 ⟨ns, ed, hl, hq⟩ => ?_⟩
  subst ed
  cases d1 with
  | tup a1 a2 =>
    have ev := ints_ofD a2
    subst ev
    exact ⟨_, ns, rfl, a1.1, hl, fun c h1 h2 => k _ H1 _ O1 τ1 n1 q1 (.int _) (hq c h1 h2)⟩
abbrev iT (ks : List (List Int)) : List DV := ks.map fun k => DV.tup (iD k)
def wLsT (wa : WE) : WE := fun τ n Q => wa τ n fun d τ1 n1 => ∃ ks : List (List Int), d = .tup (iT ks) ∧ ks.length < 64 ∧ ∀ c : Nat, c ≤ ks.length → (c = ks.length ↔ ks.Nodup) → Q (.int c) τ1 n1
theorem tups_of {b : Addr} {M : List Addr} {H : Hp} : ∀ {vs : List V} {ks : List (List Int)}, DatL K b M H vs (iT ks) → ∃ zs : List (Addr × List Int), vs = zs.map (fun z => V.ref z.1) ∧ ks = zs.map (·.2) ∧ ∀ z ∈ zs, SqT K H z.1 (z.2.map V.int)
  | _, [], .nil => ⟨[], rfl, rfl, nofun⟩
  | _, k :: ks, .cons h l => by
    obtain ⟨zs, rfl, e2, h3⟩ := tups_of l
    cases h with
    | @tup a us _ a1 a2 =>
      have ev := ints_ofD a2
      subst ev
      exact ⟨(a, k) :: zs, rfl, by rw [List.map_cons, ← e2], fun z hz => (List.mem_cons.mp hz).elim (fun ez => by rw [ez]; exact a1.1) (h3 z)⟩
theorem ve_lsT (h : PE X e (GA.tLsT K (liftE K W wa))) : PE X e (liftE K W (wLsT wa)) := BF.PE.imp h fun σ H Q ⟨Γ, O, τ, n, Q', q, hw, k⟩ => by
  refine ⟨Γ, O, τ, n, _, q, hw, fun v H1 d O1 τ1 n1 q1 d1 ⟨ks, ed, hl, hq⟩ => ?_⟩
  subst ed
  cases d1 with
  | tup a1 a2 =>
    obtain ⟨zs, rfl, e2, h3⟩ := tups_of a2
    subst e2
    rw [List.length_map] at hl hq
    exact ⟨_, zs, rfl, a1.1, h3, hl, fun c h1 h2 => k _ H1 _ O1 τ1 n1 q1 (.int _) (hq c h1 h2)⟩
theorem y_lsI (k : wa τ n fun d τ1 n1 => ∃ ns : List Int, d = .tup (iD ns) ∧ ns.length ≤ 1000 ∧ ∀ c : Nat, c ≤ ns.length → (c = ns.length ↔ ns.Nodup) → Q (.int c) τ1 n1) : wLsI wa τ n Q := k
theorem y_lsT (k : wa τ n fun d τ1 n1 => ∃ ks : List (List Int), d = .tup (iT ks) ∧ ks.length < 64 ∧ ∀ c : Nat, c ≤ ks.length → (c = ks.length ↔ ks.Nodup) → Q (.int c) τ1 n1) : wLsT wa τ n Q := k
/-! sorted of a tuple of ints; max, min of a list of ints -/
def wSrtT : List DV → DP → Prop := fun ds Q => ∃ ns : List Int, ds = [.tup (iD ns)] ∧ ∀ ns' : List Int, ns'.Perm ns → ns'.Pairwise (· ≤ ·) → Q (.lst (iD ns'))
theorem d_srtT : DCall K (GA.rSrtT K) wSrtT := fun b M H xs ds Q' Q al hd ⟨ns, ed, hw⟩ k => by
  subst ed
  cases hd with
  | cons h1 hd =>
    cases hd
    cases h1 with
    | tup a1 a2 =>
      have ev := ints_ofD a2
      subst ev
      exact ⟨_, ns, rfl, a1.1, fun ns' p pm pw hp => k _ _ _ (new_lst (K := K) (b := b) al hp (DatL.ints ns')).1 (new_lst al hp (DatL.ints ns')).2 (hw ns' pm pw)⟩
def wMaxL : List DV → DP → Prop := fun ds Q => ∃ ns : List Int, ds = [.lst (iD ns)] ∧ 0 < ns.length ∧ ∀ m, m ∈ ns → (∀ y, y ∈ ns → y ≤ m) → Q (.int m)
def wMinL : List DV → DP → Prop := fun ds Q => ∃ ns : List Int, ds = [.lst (iD ns)] ∧ 0 < ns.length ∧ ∀ m, m ∈ ns → (∀ y, y ∈ ns → m ≤ y) → Q (.int m)
theorem d_maxL : DCall K (rMax K) wMaxL := fun b M H xs ds Q' Q al hd ⟨ns, ed, h0, hw⟩ k => by
  subst ed
  cases hd with
  | cons h1 hd =>
    cases hd
    cases h1 with
    | lst a1 a2 =>
      have ev := ints_ofD a2
      subst ev
      exact ⟨_, ns, rfl, SqL.of a1.1, h0, fun m hm hy => k _ H _ (BF.Ex.refl H) (.int m) (hw m hm hy)⟩
theorem d_minL : DCall K (rMin K) wMinL := fun b M H xs ds Q' Q al hd ⟨ns, ed, h0, hw⟩ k => by
  subst ed
  cases hd with
  | cons h1 hd =>
    cases hd
    cases h1 with
    | lst a1 a2 =>
      have ev := ints_ofD a2
      subst ev
      exact ⟨_, ns, rfl, SqL.of a1.1, h0, fun m hm hy => k _ H _ (BF.Ex.refl H) (.int m) (hw m hm hy)⟩
/-! a written table -/
def wDct (K : PySem.W.Frag) (w : World) : DV → DV → DP → Prop := fun d f Q => ∃ s z i, d = .cls s ∧ f = .str z ∧ KDct K w (He.ga K s) z (.int i) ∧ Q (.int i)
theorem d_dct {w : World} : DOp K (rIxD K w) (wDct K w) := fun b M H x y d f Q' Q al hx hy ⟨s, z, i, e1, e2, hk, hq⟩ k => by
  subst e1 e2
  cases hx
  cases hy
  exact ⟨_, _, _, rfl, rfl, hk, k _ H _ (BF.Ex.refl H) (.int i) hq⟩
theorem y_dct {w : World} {s z : Str} {i : Int} (h : KDct K w (He.ga K s) z (.int i)) (k : P (.int i)) : wDct K w (.cls s) (.str z) P := ⟨s, z, i, rfl, rfl, h, k⟩
/-! texts -/
def wStrI : List DV → DP → Prop
  | [.int i], Q => i.natAbs.log2 < 1920 ∧ Q (.str (toString i))
  | _, _ => False
theorem d_strI : DCall K (fun xs H Q => ∃ i, xs = [.int i] ∧ i.natAbs.log2 < 1920 ∧ Q (.str (toString i)) H) wStrI := fun b M H xs ds Q' Q al hd hw k => by
  cases hd with
  | nil => exact hw.elim
  | cons h1 hd => cases hd with
    | cons _ _ => cases h1 <;> exact hw.elim
    | nil =>
      cases h1 with
      | int i => exact ⟨i, rfl, hw.1, k _ H _ (BF.Ex.refl H) (.str _) hw.2⟩
      | _ => exact hw.elim
def rJoinD (K : PySem.W.Frag) : V → List V → Hp → VK → Prop := fun x xs H Q => ∃ a p, ∃ ys : List Str, x = .str a ∧ xs = [.ref p] ∧ (SqL K H p (ys.map V.str) ∨ SqT K H p (ys.map V.str)) ∧ (ys.map (·.length)).sum + ys.length * a.length ≤ 16777216 ∧ Q (.str (Txt.join a ys)) H
def wJoin (wa wb : WE) : WE := fun τ n Q => wa τ n fun d τ1 n1 => ∃ a, d = .str a ∧ wb τ1 n1 fun f τ2 n2 => ∃ ys : List Str, f = .lst (ys.map DV.str) ∧ (ys.map (·.length)).sum + ys.length * a.length ≤ 16777216 ∧ Q (.str (Txt.join a ys)) τ2 n2
theorem ve_join (h : PE X e (tM1 (rJoinD K) (liftE K W wa) (liftE K W wb))) : PE X e (liftE K W (wJoin wa wb)) := BF.PE.imp h fun σ H Q ⟨Γ, O, τ, n, Q', q, hw, k⟩ => by
  refine ⟨Γ, O, τ, n, _, q, hw, fun v H1 d O1 τ1 n1 q1 d1 ⟨a, ed, hw1⟩ => ?_⟩
  subst ed
  cases d1
  refine ⟨⟨a, rfl⟩, Γ, O1, τ1, n1, _, q1, hw1, fun u H2 f O2 τ2 n2 q2 d2 ⟨ys, ef, hl, hq⟩ => ?_⟩
  subst ef
  cases d2 with
  | lst a1 a2 =>
    have ev := strs_ofD a2
    subst ev
    exact ⟨a, _, ys, rfl, rfl, .inl (SqL.of a1.1), hl, k _ H2 _ O2 τ2 n2 q2 (.str _) hq⟩
theorem y_join (k : wa τ n fun d τ1 n1 => ∃ a, d = .str a ∧ wb τ1 n1 fun f τ2 n2 => ∃ ys : List Str, f = .lst (ys.map DV.str) ∧ (ys.map (·.length)).sum + ys.length * a.length ≤ 16777216 ∧ Q (.str (Txt.join a ys)) τ2 n2) : wJoin wa wb τ n Q := k
def wFmt (wa : WE) : WE := fun τ n Q => wa τ n fun d τ1 n1 => (∃ y, d = .str y ∧ y.length ≤ 1000000 ∧ Q (.str y) τ1 n1) ∨ ∃ i : Int, d = .int i ∧ i.natAbs.log2 < 1920 ∧ Q (.str (toString i)) τ1 n1
theorem ve_fmt (h : PE X e (tFmt (liftE K W wa))) : PE X e (liftE K W (wFmt wa)) := BF.PE.imp h fun σ H Q ⟨Γ, O, τ, n, Q', q, hw, k⟩ => by
  refine ⟨Γ, O, τ, n, _, q, hw, fun v H1 d O1 τ1 n1 q1 d1 hw1 => ?_⟩
  rcases hw1 with ⟨y, ed, hl, hq⟩ | ⟨i, ed, hl, hq⟩
  · subst ed
    cases d1
    exact .inl ⟨y, rfl, BF.sz_of hl, k _ H1 _ O1 τ1 n1 q1 (.str _) hq⟩
  · subst ed
    cases d1
    exact .inr ⟨i, rfl, hl, k _ H1 _ O1 τ1 n1 q1 (.str _) hq⟩
theorem y_fmtI (k : wa τ n fun d τ1 n1 => ∃ i : Int, d = .int i ∧ i.natAbs.log2 < 1920 ∧ Q (.str (toString i)) τ1 n1) (h : ∀ {R R' : DV → ST → Int → Prop}, (∀ d τ1 n1, R d τ1 n1 → R' d τ1 n1) → wa τ n R → wa τ n R') : wFmt wa τ n Q := h (fun _ _ _ q => .inr q) k
def wJs : List WE → Str → ST → Int → (Str → ST → Int → Prop) → Prop
  | [], acc, τ, n, Q => Q acc τ n
  | w :: ws, acc, τ, n, Q => w τ n fun d τ1 n1 => ∃ y, d = .str y ∧ (acc ++ y).length ≤ 1000000 ∧ wJs ws (acc ++ y) τ1 n1 Q
def wFs (ws : List WE) : WE := fun τ n Q => wJs ws Str.empty τ n fun z τ1 n1 => Q (.str z) τ1 n1
inductive VJ (K : PySem.W.Frag) (W : Wc) (X : Cx) : List Expr → List WE → Prop where
  | nil : VJ K W X [] []
  | cons {e : Expr} {w : WE} {es : List Expr} {ws : List WE} (h : PE X e (liftE K W w)) (r : VJ K W X es ws) : VJ K W X (e :: es) (w :: ws)
theorem VJ.pj {es : List Expr} {ws : List WE} (h : VJ K W X es ws) : PJ X es (ws.map (liftE K W)) := by
  induction h with
  | nil => exact .nil
  | cons h _ ih => exact .cons h ih
theorem js_lift : ∀ (ws : List WE) (acc : Str) {σ : L2.St} {H : Hp} {R : Str → Hp → Prop} {Γ : List Gh} {O : Om} {τ : ST} {n : Int} {Q' : Str → ST → Int → Prop}, Rel K W Γ O [] τ n σ H → wJs ws acc τ n Q' →
    (∀ z H' O' τ' n', Rel K W Γ O' [] τ' n' σ H' → Q' z τ' n' → R z H') → tJs (ws.map (liftE K W)) acc σ H R
  | [], acc, σ, H, R, Γ, O, τ, n, Q', q, hw, k => k acc H O τ n q hw
  | w :: ws, acc, σ, H, R, Γ, O, τ, n, Q', q, hw, k => ⟨Γ, O, τ, n, _, q, hw, fun v H1 d O1 τ1 n1 q1 d1 ⟨y, ed, hl, hq⟩ => by
    subst ed
    cases d1
    exact ⟨y, rfl, BF.sz_of hl, js_lift ws (acc ++ y) q1 hq k⟩⟩
theorem ve_fs {e1 e2 : Expr} {es : List Expr} {ws : List WE} (h : VJ K W X (e1 :: e2 :: es) ws) : PE X (.JoinedStr (e1 :: e2 :: es) pos) (liftE K W (wFs ws)) := BF.PE.imp (pe_joined h.pj) fun σ H Q ⟨Γ, O, τ, n, Q', q, hw, k⟩ =>
  js_lift ws Str.empty q hw fun z H' O' τ' n' q' hq => k _ H' _ O' τ' n' q' (.str z) hq
theorem y_fs {ws : List WE} (k : wJs ws Str.empty τ n fun z τ1 n1 => Q (.str z) τ1 n1) : wFs ws τ n Q := k
/-! list(range(n)) -/
def wLr1 (wa : WE) : WE := fun τ n Q => wa τ n fun d τ1 n1 => ∃ m : Nat, d = .int m ∧ m ≤ 100000 ∧ Q (.lst (rngD 0 m)) τ1 n1
theorem rgV_dat {b : Addr} {M : List Addr} {H : Hp} {m : Nat} : DatL K b M H (rgV 0 m) (rngD 0 m) := by
  have e1 : rgV 0 m = ((List.range m).map fun (i : Nat) => (i : Int)).map V.int := by
    unfold rgV
    rw [show ((m : Int) - 0).toNat = m by omega, List.map_map]
    exact List.map_congr_left fun i _ => by simp
  have e2 : rngD 0 m = ((List.range m).map fun (i : Nat) => (i : Int)).map DV.int := by
    unfold rngD
    rw [List.map_map]
    exact List.map_congr_left fun i _ => by simp
  rw [e1, e2]
  exact DatL.ints _
theorem ve_lr1 (h : PE X e (tLstRg (tRg1 (liftE K W wa)))) : PE X e (liftE K W (wLr1 wa)) := BF.PE.imp h fun σ H Q ⟨Γ, O, τ, n, Q', q, hw, k⟩ => by
  refine ⟨Γ, O, τ, n, _, q, hw, fun v H1 d O1 τ1 n1 q1 d1 ⟨m, ed, hl, hq⟩ => ?_⟩
  subst ed
  cases d1
  refine ⟨m, rfl, RgOk.of_le (by omega) (by omega) (by omega) (by omega), fun p hp => ?_⟩
  obtain ⟨ex, dd⟩ := new_lst q1.al' hp (rgV_dat (b := W.b) (m := m))
  exact k _ _ _ O1 τ1 n1 (q1.ex ex) dd hq
theorem y_lr1 (k : wa τ n fun d τ1 n1 => ∃ m : Nat, d = .int m ∧ m ≤ 100000 ∧ Q (.lst (rngD 0 m)) τ1 n1) : wLr1 wa τ n Q := k
def wLrO (wa : WE) : WA := fun τ n Q => wa τ n fun d τ1 n1 => ∃ m : Nat, d = .int m ∧ m ≤ 100000 ∧ Q (rngD 0 m) τ1 n1
theorem vo_lr1 (h : PE X e (tLstRg (tRg1 (liftE K W wa)))) : PE X e (liftO K W (wLrO wa)) := BF.PE.imp h fun σ H Q ⟨Γ, O, τ, n, Q', q, hw, k⟩ => by
  refine ⟨Γ, O, τ, n, _, q, hw, fun v H1 d O1 τ1 n1 q1 d1 ⟨m, ed, hl, hq⟩ => ?_⟩
  subst ed
  cases d1
  refine ⟨m, rfl, RgOk.of_le (by omega) (by omega) (by omega) (by omega), fun p hp => ?_⟩
  have ex : BF.Ex [] H1 (upd H1 p (.lst (rgV 0 m))) := BF.Ex.new hp
  exact k p _ _ _ O1 τ1 n1 (q1.apart hp ex) upd_same (q1.newO hp) (q1.ownC hp) rgV_dat hq
theorem y_lrO {Q : List DV → ST → Int → Prop} (k : wa τ n fun d τ1 n1 => ∃ m : Nat, d = .int m ∧ m ≤ 100000 ∧ Q (rngD 0 m) τ1 n1) : wLrO wa τ n Q := k
/-! a tuple several times -/
def wRepT : DV → DV → DP → Prop
  | .tup xs, .int k, Q => xs ≠ [] ∧ 2 ≤ k ∧ k ≤ 1000 ∧ xs.length ≤ 1000 ∧ Q (.tup (List.replicate k.toNat xs).flatten)
  | _, _, _ => False
theorem rep_dat {b : Addr} {M : List Addr} {H : Hp} {vs : List V} {ds : List DV} (h : DatL K b M H vs ds) : ∀ m : Nat, DatL K b M H (List.replicate m vs).flatten (List.replicate m ds).flatten
  | 0 => .nil
  | m + 1 => by
    rw [List.replicate_succ, List.replicate_succ, List.flatten_cons, List.flatten_cons]
    exact DatL.app h (rep_dat h m)
theorem d_repT : DOp K (rRepT K) wRepT := fun b M H x y d f Q' Q al hx hy hw k => by
  cases hx with
  | tup a1 a2 =>
    cases hy with
    | int i =>
      obtain ⟨h1, h2, h3, h4, hq⟩ := hw
      exact ⟨_, i, _, rfl, rfl, a1.1, fun z => h1 (by subst z; cases a2; rfl), h2, h3, by rw [a2.length]; exact h4, fun p hp => k _ _ _ (new_tup al hp (rep_dat a2 _)).1 (new_tup al hp (rep_dat a2 _)).2 hq⟩
    | _ => exact hw.elim
  | _ => exact hw.elim
end
end VF
/-! ## in a tuple of any data; l[::-1]; rules with K told -/
namespace VF
open PySem PySem.Spec PyProof.Rows L2
section
variable {K : PySem.W.Frag} {W : Wc} {X : Cx} {e : Expr} {wa : WE} {P : DP} {τ : ST} {n : Int} {Q : DV → ST → Int → Prop}
def rInT (K : PySem.W.Frag) (neg : Bool) : R2 := fun x y H Q => ∃ d ds, Dp K H x d ∧ Dp K H y (.tuple ds) ∧ SeqAt.shaped d = true ∧ SeqAt.shaped (.tuple ds) = true ∧ Q (.bl (if neg then !(ds.any fun z => PyData.eqv z d) else ds.any fun z => PyData.eqv z d)) H
theorem op_inT (hu : X.A.units + 65 < cLine) : OpR X (compareOp .In) (rInT X.K false) := by
  intro pins s σ H x y v u Q I rx ry ⟨d, ds, hd, he, sd, se, q⟩
  obtain ⟨as, r1⟩ := Dp.reads I d x v hd rx
  obtain ⟨bs, r2⟩ := Dp.reads I (.tuple ds) y u he ry
  exact SeqAt.in_tuple_reads r2 r1 (SeqAt.canLay_of_shaped (d := .tuple ds) se) (SeqAt.canLay_of_shaped sd) (room_in_shaped sd hu) ⟨.bl _, H, I, rfl, q⟩
theorem op_notInT (hu : X.A.units + 65 < cLine) : OpR X (compareOp .NotIn) (rInT X.K true) := by
  intro pins s σ H x y v u Q I rx ry ⟨d, ds, hd, he, sd, se, q⟩
  obtain ⟨as, r1⟩ := Dp.reads I d x v hd rx
  obtain ⟨bs, r2⟩ := Dp.reads I (.tuple ds) y u he ry
  exact SeqAt.notIn_tuple_reads r2 r1 (SeqAt.canLay_of_shaped (d := .tuple ds) se) (SeqAt.canLay_of_shaped sd) (room_in_shaped sd hu) ⟨.bl _, H, I, rfl, q⟩
theorem op_inTK (K : PySem.W.Frag) (hu : X.A.units + 65 < cLine) (h : X.K = K := by rfl) : OpR X (compareOp .In) (rInT K false) := h ▸ op_inT hu
theorem op_notInTK (K : PySem.W.Frag) (hu : X.A.units + 65 < cLine) (h : X.K = K := by rfl) : OpR X (compareOp .NotIn) (rInT K true) := h ▸ op_notInT hu
def wInT (neg : Bool) : DV → DV → DP → Prop := fun d f Q => ∃ x ys, toPy d = some x ∧ toPy f = some (.tuple ys) ∧ SeqAt.shaped x = true ∧ SeqAt.shaped (.tuple ys) = true ∧ Q (.bl (if neg then !(ys.any fun z => PyData.eqv z x) else ys.any fun z => PyData.eqv z x))
theorem d_inT {neg : Bool} : DOp K (rInT K neg) (wInT neg) := fun b M H x y d e Q' Q al hx hy ⟨u, ys, h1, h2, s1, s2, hq⟩ k => ⟨u, ys, dp_of hx h1, dp_of hy h2, s1, s2, k _ H _ (BF.Ex.refl H) (.bl _) hq⟩
/-! l[::-1] -/
def wRevL (wa : WE) : WE := fun τ n Q => wa τ n fun d τ1 n1 => ∃ xs, d = .lst xs ∧ Q (.lst xs.reverse) τ1 n1
theorem ve_revL (h : PE X e (tRevL K (liftE K W wa))) : PE X e (liftE K W (wRevL wa)) := BF.PE.imp h fun σ H Q ⟨Γ, O, τ, n, Q', q, hw, k⟩ => by
  refine ⟨Γ, O, τ, n, _, q, hw, fun v H1 d O1 τ1 n1 q1 d1 ⟨xs, ed, hq⟩ => ?_⟩
  subst ed
  cases d1 with
  | lst a1 a2 => exact ⟨_, _, rfl, SqL.of a1.1, fun p hp => by
      obtain ⟨ex, dd⟩ := new_lst q1.al' hp (DatL.rev a2)
      exact k _ _ _ O1 τ1 n1 (q1.ex ex) dd hq⟩
theorem y_revL (k : wa τ n fun d τ1 n1 => ∃ xs, d = .lst xs ∧ Q (.lst xs.reverse) τ1 n1) : wRevL wa τ n Q := k
/-! with K told -/
theorem cr_srtTK (K : PySem.W.Frag) (h : X.K = K := by rfl) : CallR X (.builtin "sorted") (GA.rSrtT K) := h ▸ GA.cr_srtT
theorem cr_maxK (K : PySem.W.Frag) (hc : X.calm = true := by rfl) (h : X.K = K := by rfl) : CallR X (.builtin "max") (rMax K) := h ▸ cr_max hc
theorem cr_minK' (K : PySem.W.Frag) (hc : X.calm = true := by rfl) (h : X.K = K := by rfl) : CallR X (.builtin "min") (rMin K) := h ▸ cr_min hc
theorem call_tupZK (K : PySem.W.Frag) (h : X.K = K := by rfl) : CallR X (.type "tuple") (GA.rTupZ K) := h ▸ GA.call_tupZ
theorem op_repTK (K : PySem.W.Frag) (h : X.K = K := by rfl) : OpR X (binaryOp .Mult) (rRepT K) := h ▸ op_repT
theorem ix_dctK (K : PySem.W.Frag) (w : World) (h : X.K = K := by rfl) (hw : X.w = w := by rfl) : IxR X (rIxD K w) := h ▸ hw ▸ ix_kdict
theorem mt_tixK (K : PySem.W.Frag) (h : X.K = K := by rfl) : MtR X "tuple.index" (GA.rTIx K) := h ▸ GA.mt_tix
end
end VF
/-! ## lists and tuples walked alike; isinstance, == step by step -/
namespace VF
open PySem PySem.Spec PyProof.Rows L2
/-- what a list or a tuple gives, walked -/
def iSeq (K : PySem.W.Frag) (tl : TE) : TI := fun σ H R => tl σ H fun x H1 => ∃ a, x = .ref a ∧ (((∃ xs, SqL K H1 a xs) ∧ R (Itl K a) H1) ∨ ((∃ xs, SqT K H1 a xs) ∧ R (Itt K a) H1))
theorem pi_seq {X : Cx} {tg l : Expr} {tl : TE} (hl : PE X l tl) : PI X tg l (iSeq X.K tl) := by
  refine ⟨fun pins s σ H R I h => ?_⟩
  refine thn (hl.run pins s σ H _ I h) fun v s1 ⟨x, H1, I1, r1, q1⟩ => ?_
  obtain ⟨a, e, ⟨⟨xs, hq⟩, q⟩ | ⟨⟨xs, hq⟩, q⟩⟩ := q1
  · subst e
    cases r1
    obtain ⟨its, rv, p, hz⟩ := I1.list hq
    refine wpAny_pyIter_list p.isList ?_
    refine ⟨s1.heap.objs.size, [s1.heap.objs.size], _, _, H1, rfl, I1.kept (t' := s1.toks) fun b o e => Heap.get?_push_of_some _ e, turn_list a _, ⟨_, Heap.get?_push_size _ rfl, rfl, rfl⟩, fun b hb => ?_, q⟩
    have e : b = s1.heap.objs.size := by simpa using hb
    subst e
    exact I1.fpOk (Nat.le_refl _) (I1.hok.fresh (Nat.le_refl _))
  · subst e
    cases r1
    obtain ⟨its, rv, p, hz⟩ := I1.tuple hq
    refine wpAny_pyIter_tuple (show s1.heap.IsTuple a its.toArray from p) ?_
    refine ⟨s1.heap.objs.size, [s1.heap.objs.size], _, _, H1, rfl, I1.kept (t' := s1.toks) fun b o e => Heap.get?_push_of_some _ e, turn_tuple a _, ⟨_, Heap.get?_push_size _ rfl, rfl, rfl⟩, fun b hb => ?_, q⟩
    have e : b = s1.heap.objs.size := by simpa using hb
    subst e
    exact I1.fpOk (Nat.le_refl _) (I1.hok.fresh (Nat.le_refl _))
def wISeq (we : WE) : WA := fun τ n Q => we τ n fun d τ1 n1 => ∃ ds, (d = .lst ds ∨ d = .tup ds) ∧ Q ds τ1 n1
theorem vi_seq {K : PySem.W.Frag} {W : Wc} {X : Cx} {we : WE} (hK : X.K = K) {tg l : Expr} (h : PE X l (liftE K W we)) : PI X tg l (liftI K W (wISeq we)) := by
  subst hK
  refine PI.imp (pi_seq h) fun σ H R ⟨Γ, O, τ, n, Q', q, hw, k⟩ => ?_
  refine ⟨Γ, O, τ, n, _, q, hw, fun v H1 d O1 τ1 n1 q1 d1 ⟨ds, ed, hq⟩ => ?_⟩
  rcases ed with ed | ed
  · subst ed
    cases d1 with
    | @lst a vs _ h1 h2 =>
      refine ⟨a, rfl, .inl ⟨⟨vs, SqL.of h1.1⟩, k _ H1 [.l a vs ds] ds O1 τ1 n1 (q1.gcons ⟨h1, h2⟩) ⟨_, _, by rw [← h2.length]; exact walk_list, fun O M H g => SqL.of (g _ List.mem_cons_self).1.1, fun O M H i x H' g _ hi y => ?_⟩ hq⟩⟩
      obtain ⟨rfl, y2⟩ := y
      exact ⟨BF.Ex.refl _, (g _ List.mem_cons_self).2.get y2⟩
  · subst ed
    cases d1 with
    | @tup a vs _ h1 h2 =>
      refine ⟨a, rfl, .inr ⟨⟨vs, h1.1⟩, k _ H1 [.t a vs ds] ds O1 τ1 n1 (q1.gcons ⟨h1, h2⟩) ⟨_, _, by rw [← h2.length]; exact walk_tup, fun O M H g => (g _ List.mem_cons_self).1.1, fun O M H i x H' g _ hi y => ?_⟩ hq⟩⟩
      obtain ⟨rfl, y2⟩ := y
      exact ⟨BF.Ex.refl _, (g _ List.mem_cons_self).2.get y2⟩
theorem y_iseq' {we : WE} {τ : ST} {n : Int} {Q : List DV → ST → Int → Prop} (k : we τ n fun d τ1 n1 => ∃ ds, (d = .lst ds ∨ d = .tup ds) ∧ Q ds τ1 n1) : wISeq we τ n Q := k
theorem y_seqL {ds : List DV} {R : List DV → Prop} (k : R ds) : ∃ es, (DV.lst ds = .lst es ∨ DV.lst ds = .tup es) ∧ R es := ⟨ds, .inl rfl, k⟩
theorem y_seqT {ds : List DV} {R : List DV → Prop} (k : R ds) : ∃ es, (DV.tup ds = .lst es ∨ DV.tup ds = .tup es) ∧ R es := ⟨ds, .inr rfl, k⟩
section
variable {P : DP} {i : Int} {x : Bool} {z : Str} {ds : List DV}
theorem y_i_non_int (k : P (.bl false)) : wIsi [.non, .ty "int"] P := ⟨"NoneType", false, rfl, by decide +kernel, k⟩
theorem y_i_non_bool (k : P (.bl false)) : wIsi [.non, .ty "bool"] P := ⟨"NoneType", false, rfl, by decide +kernel, k⟩
theorem y_i_non_str (k : P (.bl false)) : wIsi [.non, .ty "str"] P := ⟨"NoneType", false, rfl, by decide +kernel, k⟩
theorem y_i_non_list (k : P (.bl false)) : wIsi [.non, .ty "list"] P := ⟨"NoneType", false, rfl, by decide +kernel, k⟩
theorem y_i_non_tuple (k : P (.bl false)) : wIsi [.non, .ty "tuple"] P := ⟨"NoneType", false, rfl, by decide +kernel, k⟩
theorem y_iLT_non (k : P (.bl false)) : wIsiT [.non, .tup [.ty "list", .ty "tuple"]] P := ⟨"NoneType", ["list", "tuple"], false, rfl, rfl, by decide +kernel, k⟩
theorem y_i_bl_int (k : P (.bl true)) : wIsi [(.bl x), .ty "int"] P := ⟨"bool", true, rfl, by decide +kernel, k⟩
theorem y_i_bl_bool (k : P (.bl true)) : wIsi [(.bl x), .ty "bool"] P := ⟨"bool", true, rfl, by decide +kernel, k⟩
theorem y_i_bl_str (k : P (.bl false)) : wIsi [(.bl x), .ty "str"] P := ⟨"bool", false, rfl, by decide +kernel, k⟩
theorem y_i_bl_list (k : P (.bl false)) : wIsi [(.bl x), .ty "list"] P := ⟨"bool", false, rfl, by decide +kernel, k⟩
theorem y_i_bl_tuple (k : P (.bl false)) : wIsi [(.bl x), .ty "tuple"] P := ⟨"bool", false, rfl, by decide +kernel, k⟩
theorem y_iLT_bl (k : P (.bl false)) : wIsiT [(.bl x), .tup [.ty "list", .ty "tuple"]] P := ⟨"bool", ["list", "tuple"], false, rfl, rfl, by decide +kernel, k⟩
theorem y_i_int_int (k : P (.bl true)) : wIsi [(.int i), .ty "int"] P := ⟨"int", true, rfl, by decide +kernel, k⟩
theorem y_i_int_bool (k : P (.bl false)) : wIsi [(.int i), .ty "bool"] P := ⟨"int", false, rfl, by decide +kernel, k⟩
theorem y_i_int_str (k : P (.bl false)) : wIsi [(.int i), .ty "str"] P := ⟨"int", false, rfl, by decide +kernel, k⟩
theorem y_i_int_list (k : P (.bl false)) : wIsi [(.int i), .ty "list"] P := ⟨"int", false, rfl, by decide +kernel, k⟩
theorem y_i_int_tuple (k : P (.bl false)) : wIsi [(.int i), .ty "tuple"] P := ⟨"int", false, rfl, by decide +kernel, k⟩
theorem y_iLT_int (k : P (.bl false)) : wIsiT [(.int i), .tup [.ty "list", .ty "tuple"]] P := ⟨"int", ["list", "tuple"], false, rfl, rfl, by decide +kernel, k⟩
theorem y_i_str_int (k : P (.bl false)) : wIsi [(.str z), .ty "int"] P := ⟨"str", false, rfl, by decide +kernel, k⟩
theorem y_i_str_bool (k : P (.bl false)) : wIsi [(.str z), .ty "bool"] P := ⟨"str", false, rfl, by decide +kernel, k⟩
theorem y_i_str_str (k : P (.bl true)) : wIsi [(.str z), .ty "str"] P := ⟨"str", true, rfl, by decide +kernel, k⟩
theorem y_i_str_list (k : P (.bl false)) : wIsi [(.str z), .ty "list"] P := ⟨"str", false, rfl, by decide +kernel, k⟩
theorem y_i_str_tuple (k : P (.bl false)) : wIsi [(.str z), .ty "tuple"] P := ⟨"str", false, rfl, by decide +kernel, k⟩
theorem y_iLT_str (k : P (.bl false)) : wIsiT [(.str z), .tup [.ty "list", .ty "tuple"]] P := ⟨"str", ["list", "tuple"], false, rfl, rfl, by decide +kernel, k⟩
theorem y_i_lst_int (k : P (.bl false)) : wIsi [(.lst ds), .ty "int"] P := ⟨"list", false, rfl, by decide +kernel, k⟩
theorem y_i_lst_bool (k : P (.bl false)) : wIsi [(.lst ds), .ty "bool"] P := ⟨"list", false, rfl, by decide +kernel, k⟩
theorem y_i_lst_str (k : P (.bl false)) : wIsi [(.lst ds), .ty "str"] P := ⟨"list", false, rfl, by decide +kernel, k⟩
theorem y_i_lst_list (k : P (.bl true)) : wIsi [(.lst ds), .ty "list"] P := ⟨"list", true, rfl, by decide +kernel, k⟩
theorem y_i_lst_tuple (k : P (.bl false)) : wIsi [(.lst ds), .ty "tuple"] P := ⟨"list", false, rfl, by decide +kernel, k⟩
theorem y_iLT_lst (k : P (.bl true)) : wIsiT [(.lst ds), .tup [.ty "list", .ty "tuple"]] P := ⟨"list", ["list", "tuple"], true, rfl, rfl, by decide +kernel, k⟩
theorem y_i_tup_int (k : P (.bl false)) : wIsi [(.tup ds), .ty "int"] P := ⟨"tuple", false, rfl, by decide +kernel, k⟩
theorem y_i_tup_bool (k : P (.bl false)) : wIsi [(.tup ds), .ty "bool"] P := ⟨"tuple", false, rfl, by decide +kernel, k⟩
theorem y_i_tup_str (k : P (.bl false)) : wIsi [(.tup ds), .ty "str"] P := ⟨"tuple", false, rfl, by decide +kernel, k⟩
theorem y_i_tup_list (k : P (.bl false)) : wIsi [(.tup ds), .ty "list"] P := ⟨"tuple", false, rfl, by decide +kernel, k⟩
theorem y_i_tup_tuple (k : P (.bl true)) : wIsi [(.tup ds), .ty "tuple"] P := ⟨"tuple", true, rfl, by decide +kernel, k⟩
theorem y_iLT_tup (k : P (.bl true)) : wIsiT [(.tup ds), .tup [.ty "list", .ty "tuple"]] P := ⟨"tuple", ["list", "tuple"], true, rfl, rfl, by decide +kernel, k⟩
/-- plain data, at most k deep -/
def Pl (k : Nat) (d : DV) : Prop := ∃ x, toPy d = some x ∧ Sh k x
theorem Pl.non {k : Nat} : Pl k .non := ⟨_, rfl, Sh.none⟩
theorem Pl.bl {k : Nat} {b : Bool} : Pl k (.bl b) := ⟨_, rfl, Sh.bool⟩
theorem Pl.int {k : Nat} {i : Int} : Pl k (.int i) := ⟨_, rfl, Sh.int⟩
theorem Pl.str {k : Nat} {z : Str} (h : (PyData.str z).canLay0 = true) : Pl k (.str z) := ⟨_, rfl, Sh.str h⟩
theorem pl_list {k : Nat} : ∀ {ds : List DV}, (∀ d ∈ ds, Pl k d) → ∃ xs, toPyL ds = some xs ∧ ∀ x ∈ xs, Sh k x
  | [], _ => ⟨[], rfl, nofun⟩
  | d :: ds, h => by
    obtain ⟨x, e, s⟩ := h d List.mem_cons_self
    obtain ⟨xs, e2, s2⟩ := pl_list (ds := ds) fun y hy => h y (List.mem_cons_of_mem _ hy)
    exact ⟨x :: xs, by simp only [toPyL, e, e2], fun y hy => (List.mem_cons.mp hy).elim (fun q => q ▸ s) (s2 y)⟩
theorem Pl.lst {k : Nat} (h : ∀ d ∈ ds, Pl k d) : Pl (k + 1) (.lst ds) := by
  obtain ⟨xs, e, s⟩ := pl_list h
  exact ⟨.list xs, by simp only [toPy, e]; rfl, Sh.list s⟩
theorem Pl.tup {k : Nat} (h : ∀ d ∈ ds, Pl k d) : Pl (k + 1) (.tup ds) := by
  obtain ⟨xs, e, s⟩ := pl_list h
  exact ⟨.tuple xs, by simp only [toPy, e]; rfl, Sh.tuple s⟩
theorem sh_mem {k : Nat} : ∀ {xs : List PyData}, PyData.canLayAll0 xs = true → PyData.depthAll xs ≤ k → ∀ x ∈ xs, Sh k x
  | [], _, _ => nofun
  | x :: xs, h1, h2 => fun y hy => by
    simp only [PyData.canLayAll0, Bool.and_eq_true] at h1
    simp only [PyData.depthAll] at h2
    rcases List.mem_cons.mp hy with e | hy
    · rw [e]; exact ⟨h1.1, by omega⟩
    · exact sh_mem h1.2 (by omega) y hy
theorem toPyL_mem : ∀ {ds : List DV} {xs : List PyData}, toPyL ds = some xs → ∀ d ∈ ds, ∃ x ∈ xs, toPy d = some x
  | [], _, _ => nofun
  | d :: ds, xs, e => fun y hy => by
    simp only [toPyL] at e
    cases e1 : toPy d with
    | none => rw [e1] at e; cases e
    | some u =>
      cases e2 : toPyL ds with
      | none => rw [e1, e2] at e; cases e
      | some us =>
        rw [e1, e2] at e
        cases e
        rcases List.mem_cons.mp hy with q | hy
        · exact ⟨u, List.mem_cons_self, by rw [q]; exact e1⟩
        · obtain ⟨v, hv, ev⟩ := toPyL_mem e2 y hy
          exact ⟨v, List.mem_cons_of_mem _ hv, ev⟩
theorem Pl.of_lst {k : Nat} (h : Pl (k + 1) (.lst ds)) : ∀ d ∈ ds, Pl k d := fun d hd => by
  obtain ⟨x, e, s⟩ := h
  simp only [toPy] at e
  obtain ⟨xs, e1, rfl⟩ := Option.map_eq_some_iff.mp e
  obtain ⟨u, hu, eu⟩ := toPyL_mem e1 d hd
  exact ⟨u, eu, sh_mem (by simpa [PyData.canLay0] using s.1) (by have := s.2; simp only [PyData.depth] at this; omega) u hu⟩
theorem Pl.of_tup {k : Nat} (h : Pl (k + 1) (.tup ds)) : ∀ d ∈ ds, Pl k d := fun d hd => by
  obtain ⟨x, e, s⟩ := h
  simp only [toPy] at e
  obtain ⟨xs, e1, rfl⟩ := Option.map_eq_some_iff.mp e
  obtain ⟨u, hu, eu⟩ := toPyL_mem e1 d hd
  exact ⟨u, eu, sh_mem (by simpa [PyData.canLay0] using s.1) (by have := s.2; simp only [PyData.depth] at this; omega) u hu⟩
theorem Pl.no_lst (h : Pl 0 (.lst ds)) : False := by
  obtain ⟨x, e, s⟩ := h
  simp only [toPy] at e
  obtain ⟨xs, e1, rfl⟩ := Option.map_eq_some_iff.mp e
  have := s.2
  simp only [PyData.depth] at this
  omega
theorem Pl.no_tup (h : Pl 0 (.tup ds)) : False := by
  obtain ⟨x, e, s⟩ := h
  simp only [toPy] at e
  obtain ⟨xs, e1, rfl⟩ := Option.map_eq_some_iff.mp e
  have := s.2
  simp only [PyData.depth] at this
  omega
theorem Pl.mono {k l : Nat} {d : DV} (h : Pl k d) (hl : k ≤ l) : Pl l d := by
  obtain ⟨x, e, s⟩ := h
  exact ⟨x, e, s.1, Nat.le_trans s.2 hl⟩
/-- .. == a text -/
def eqS : DV → Str → Bool
  | .str y, z => decide (y = z)
  | _, _ => false
theorem y_eqPS {k : Nat} {d : DV} (h : Pl k d) (hk : k ≤ 64) (hz : (PyData.str z).canLay0 = true) (q : P (.bl (eqS d z))) : wEq false d (.str z) P := by
  obtain ⟨x, e, s⟩ := h
  refine .inr ⟨x, .str z, e, rfl, s.ok hk, (Sh.str (k := 0) hz).ok (by decide), ?_⟩
  have ex : PyData.eqv x (.str z) = eqS d z := by
    cases d with
    | str y =>
      cases e
      simp only [PyData.eqv, eqS]
      by_cases q : y = z
      · rw [q]; simp
      · simp [q]
    | non => cases e; rfl
    | bl b => cases e; rfl
    | int i => cases e; rfl
    | lst es =>
      simp only [toPy] at e
      obtain ⟨xs, _, rfl⟩ := Option.map_eq_some_iff.mp e
      rfl
    | tup es =>
      simp only [toPy] at e
      obtain ⟨xs, _, rfl⟩ := Option.map_eq_some_iff.mp e
      rfl
    | _ => cases e
  simpa [ex] using q
end
end VF
/-! macros: vw (v, and isinstance, walks of lists and tuples) -/
local macro_rules | `(tactic| walk_at "v3") => `(tactic| (with_reducible first | refine' VF.y_iseq' ?_ | refine' VF.y_seqL ?_ | refine' VF.y_seqT ?_ | refine' VF.y_enT ?_ | refine' VF.y_tupZ ?_ | refine' VF.y_lsI ?_ | refine' VF.y_lsT ?_ | refine' VF.y_join ?_ | refine' VF.y_fs ?_ | refine' VF.y_revL ?_ | refine' VF.y_lr1 ?_ | refine' VF.y_lrO ?_ | refine' VF.y_tix ?_ | refine' VF.y_i_non_int ?_ | refine' VF.y_i_non_bool ?_ | refine' VF.y_i_non_str ?_ | refine' VF.y_i_non_list ?_ | refine' VF.y_i_non_tuple ?_ | refine' VF.y_iLT_non ?_ | refine' VF.y_i_bl_int ?_ | refine' VF.y_i_bl_bool ?_ | refine' VF.y_i_bl_str ?_ | refine' VF.y_i_bl_list ?_ | refine' VF.y_i_bl_tuple ?_ | refine' VF.y_iLT_bl ?_ | refine' VF.y_i_int_int ?_ | refine' VF.y_i_int_bool ?_ | refine' VF.y_i_int_str ?_ | refine' VF.y_i_int_list ?_ | refine' VF.y_i_int_tuple ?_ | refine' VF.y_iLT_int ?_ | refine' VF.y_i_str_int ?_ | refine' VF.y_i_str_bool ?_ | refine' VF.y_i_str_str ?_ | refine' VF.y_i_str_list ?_ | refine' VF.y_i_str_tuple ?_ | refine' VF.y_iLT_str ?_ | refine' VF.y_i_lst_int ?_ | refine' VF.y_i_lst_bool ?_ | refine' VF.y_i_lst_str ?_ | refine' VF.y_i_lst_list ?_ | refine' VF.y_i_lst_tuple ?_ | refine' VF.y_iLT_lst ?_ | refine' VF.y_i_tup_int ?_ | refine' VF.y_i_tup_bool ?_ | refine' VF.y_i_tup_str ?_ | refine' VF.y_i_tup_list ?_ | refine' VF.y_i_tup_tuple ?_ | refine' VF.y_iLT_tup ?_))
local macro_rules | `(tactic| walk_at "vw") => `(tactic| repeat (first | ((with_reducible first | refine' VF.y_seq ?_ | refine' VF.y_next ?_ | refine' VF.y_set ?_ | refine' VF.y_setO ?_ | refine' VF.y_asg ?_ | refine' VF.y_par ?_ | refine' VF.y_par2 ?_ | refine' VF.y_parO1 ?_ | refine' VF.y_parO2 ?_ | refine' VF.y_ret ?_ | refine' VF.y_retN ?_ | refine' VF.y_ifS ?_ | refine' VF.y_drop ?_ | refine' VF.y_brk ?_ | refine' VF.y_cnt ?_ | refine' VF.y_setI ?_ | refine' VF.y_for ?_ | refine' VF.y_raise ?_ | refine' VF.y_c ?_ | refine' VF.y_op ?_ | refine' VF.y_un ?_ | refine' VF.y_nil ?_ | refine' VF.y_cons ?_ | refine' VF.y_cb ?_ | refine' VF.y_tup ?_ | refine' VF.y_lst ?_ | refine' VF.y_lstO ?_ | refine' VF.y_B ?_ | refine' VF.y_bl ?_ | refine' VF.y_and ?_ | refine' VF.y_or ?_ | refine' VF.y_not ?_ | refine' VF.y_andV ?_ | refine' VF.y_orV ?_ | refine' VF.y_notV ?_ | refine' VF.y_if ?_ | refine' VF.y_sl ?_ | refine' VF.y_P0 ?_ | refine' VF.y_P1 ?_ | refine' VF.y_int ?_ | refine' VF.y_chain ?_ | refine' VF.y_call ?_ | refine' VF.y_meth ?_ | refine' VF.y_fld ?_ | refine' VF.y_OL ?_ | refine' VF.y_lc ?_ | refine' VF.y_yes ?_ | refine' VF.y_name ?_ | refine' VF.y_gnil ?_ | refine' VF.y_gcons ?_ | refine' VF.y_rng1 ?_ | refine' VF.y_zip ?_ | refine' VF.y_zipL ?_ | refine' VF.y_iL ?_ | refine' VF.y_iT ?_ | refine' VF.y_tru (b := true) ?_ | refine' VF.y_listO ?_ | refine' VF.y_listO1 ?_ | refine' VF.y_listO2 ?_ | refine' VF.y_own2 ?_ | refine' VF.y_own2N ?_ | refine' VF.y_own2b ?_ | refine' VF.y_addI ?_ | refine' VF.y_I0 ?_ | refine' VF.y_IB ?_ | refine' VF.y_neg ?_ | refine' VF.y_slL ?_ | refine' VF.y_slT ?_ | refine' VF.y_lenL ?_ | refine' VF.y_lenT ?_ | refine' VF.y_listL ?_ | refine' VF.y_listT ?_ | refine' VF.y_tupL ?_ | refine' VF.y_tupT ?_ | refine' VF.y_intI ?_ | refine' VF.y_abs ?_ | refine' VF.y_max ?_ | refine' VF.y_min ?_ | refine' VF.y_eqI ?_ | refine' VF.y_neI ?_ | refine' VF.y_eqS ?_ | refine' VF.y_neS ?_ | refine' VF.y_eqB ?_ | refine' VF.y_neB ?_ | refine' BF.x_iteY ?_ | refine' BF.x_iteNo ?_)) | (first | ((with_reducible apply VF.y_nx); ((first | (simp only [List.set_cons_succ, List.set_cons_zero]; done) | (simp only [List.set_cons_succ, List.set_cons_zero]; rfl) | rfl))) | ((with_reducible apply VF.y_nxG); ((first | (simp only [List.set_cons_succ, List.set_cons_zero]; done) | (simp only [List.set_cons_succ, List.set_cons_zero]; rfl) | rfl)))) | (first | ((with_reducible apply VF.y_var); (with_unfolding_all rfl)) | ((with_reducible apply VF.y_varF); (with_unfolding_all rfl)) | ((with_reducible apply VF.y_varO); (with_unfolding_all rfl)) | ((with_reducible apply VF.y_ixL); (with_unfolding_all rfl)) | ((with_reducible apply VF.y_ixT); (with_unfolding_all rfl)) | ((with_reducible apply VF.y_gtup); (with_unfolding_all rfl)) | ((with_reducible apply VF.y_len1); (simp only [List.length_cons, List.length_nil]; omega)) | ((with_reducible apply VF.y_I); ((first | ((with_reducible refine BF.cpow_of ?_ ?_ ?_ ?_) <;> omega) | ((with_reducible refine BF.cmul_of ?_ ?_ ?_ ?_) <;> omega) | ((with_reducible refine BF.cdiv_of ?_ ?_) <;> omega) | (show (0 : Int) < _; omega)))) | ((with_reducible apply VF.y_rng1b); omega; omega) | ((with_reducible apply VF.y_lenO); (with_unfolding_all rfl)) | ((with_reducible apply VF.y_lenD); (with_unfolding_all rfl)) | ((with_reducible apply VF.y_ixVO); (with_unfolding_all rfl)) | ((with_reducible apply VF.y_ixVL); (with_unfolding_all rfl)) | ((with_reducible apply VF.y_app); (with_unfolding_all rfl)) | ((with_reducible apply VF.y_ins); (with_unfolding_all rfl)) | ((with_reducible apply VF.y_setI1); (with_unfolding_all rfl)) | ((with_reducible apply VF.y_fld2); (assumption); (with_unfolding_all rfl)) | ((with_reducible apply VF.y_noOwn); (with_unfolding_all rfl)) | ((with_reducible apply VF.y_wipe); (with_unfolding_all rfl)) | ((with_reducible apply VF.y_acc); (assumption)) | ((with_reducible apply VF.y_tru1); (with_unfolding_all rfl))) | ((with_reducible first | refine' VF.y_iseq' ?_ | refine' VF.y_seqL ?_ | refine' VF.y_seqT ?_ | refine' VF.y_enT ?_ | refine' VF.y_tupZ ?_ | refine' VF.y_lsI ?_ | refine' VF.y_lsT ?_ | refine' VF.y_join ?_ | refine' VF.y_fs ?_ | refine' VF.y_revL ?_ | refine' VF.y_lr1 ?_ | refine' VF.y_lrO ?_ | refine' VF.y_tix ?_ | refine' VF.y_i_non_int ?_ | refine' VF.y_i_non_bool ?_ | refine' VF.y_i_non_str ?_ | refine' VF.y_i_non_list ?_ | refine' VF.y_i_non_tuple ?_ | refine' VF.y_iLT_non ?_ | refine' VF.y_i_bl_int ?_ | refine' VF.y_i_bl_bool ?_ | refine' VF.y_i_bl_str ?_ | refine' VF.y_i_bl_list ?_ | refine' VF.y_i_bl_tuple ?_ | refine' VF.y_iLT_bl ?_ | refine' VF.y_i_int_int ?_ | refine' VF.y_i_int_bool ?_ | refine' VF.y_i_int_str ?_ | refine' VF.y_i_int_list ?_ | refine' VF.y_i_int_tuple ?_ | refine' VF.y_iLT_int ?_ | refine' VF.y_i_str_int ?_ | refine' VF.y_i_str_bool ?_ | refine' VF.y_i_str_str ?_ | refine' VF.y_i_str_list ?_ | refine' VF.y_i_str_tuple ?_ | refine' VF.y_iLT_str ?_ | refine' VF.y_i_lst_int ?_ | refine' VF.y_i_lst_bool ?_ | refine' VF.y_i_lst_str ?_ | refine' VF.y_i_lst_list ?_ | refine' VF.y_i_lst_tuple ?_ | refine' VF.y_iLT_lst ?_ | refine' VF.y_i_tup_int ?_ | refine' VF.y_i_tup_bool ?_ | refine' VF.y_i_tup_str ?_ | refine' VF.y_i_tup_list ?_ | refine' VF.y_i_tup_tuple ?_ | refine' VF.y_iLT_tup ?_)) | (first | with_reducible refine' BF.x_iteT (by with_unfolding_all rfl) ?_ | with_reducible refine' BF.x_iteF (by with_unfolding_all rfl) ?_ | with_reducible refine' BF.x_iteT (decide_eq_true rfl) ?_)))
/-! ## C(d, ..) of a class whose __init__ has a star parameter, by data; what is never reached; gcd -/
namespace VF
open PySem PySem.Spec PyProof.Rows L2 StX
def wDead : WS := fun _ _ _ => False
theorem vs_dead {K : PySem.W.Frag} {W : Wc} {X : Cx} {st : Stmt} : PS X st (liftS K W wDead) := BF.PS.imp' BF.ps_dead fun _ _ _ ⟨_, _, _, _, _, _, hw, _⟩ => hw.elim
def wGcd : List DV → DP → Prop
  | [.int a, .int b], Q => Q (.int ((Nat.gcd a.natAbs b.natAbs : Nat) : Int))
  | _, _ => False
theorem d_gcd {K : PySem.W.Frag} : DCall K rGcd wGcd := fun b M H xs ds Q' Q al hd hw k => by
  cases hd with
  | nil => exact hw.elim
  | cons h1 hd => cases hd with
    | nil => cases h1 <;> exact hw.elim
    | cons h2 hd => cases hd with
      | cons _ _ => cases h1 <;> cases h2 <;> exact hw.elim
      | nil =>
        cases h1 with
        | int i =>
          cases h2 with
          | int j => exact ⟨i, j, rfl, k _ H _ (BF.Ex.refl H) (.int _) hw⟩
          | _ => exact hw.elim
        | _ => cases h2 <;> exact hw.elim
section
variable {K : PySem.W.Frag}
/-- the promise of an __init__ with one parameter and a star: positional -/
def spStar (K : PySem.W.Frag) (Cs : Cf → Prop) (cl : Str) (sp : ISp) : Sp := fun vs H Q E => ∃ ws rest : List V, vs = ws ++ rest ∧ ws.length = 2 ∧ rest.length ≤ sizeLine ∧ ∀ p, H p = none → liftSpI K Cs cl sp (ws ++ [V.ref p]) (upd H p (.tup rest)) Q E
theorem v_okIS {P : Program} {w : World} {mg : Str → Option Value} {base : Heap} {Cs : Cf → Prop} {sp : ISp} {cl x qual p1 p2 pv : Str} {params : Arguments} {body : List Stmt} {scope : Scope} {f : Addr} {fd : FuncData} {N : List Str} {k : Nat}
    (F : FunD K x qual params body scope [] [] f fd) (S : FnScope N ([p1, p2] ++ [pv]) scope) (hN : N.length < 1000000) (hp : 3 ≤ N.length) (hlen : ∀ ds n Q E, sp ds n Q E → ds.length = 2)
    (hb : ∀ (kV doc pm : Value) (an : Option Addr) (cdv ct : Value) (us rest : List Value), us.length = 2 → bindArgs (PySem.W.fnOf x qual params body scope .none kV doc pm an cdv ct) ⟨us ++ rest, []⟩ = (newTuple rest >>= fun t => pure ([p1, p2].zip us ++ [(pv, t)])))
    (hbody : ∀ (cdv : Value) (A : Around) (outer : List Env) (s : Shared) (H : Hp) (W : Wc) (ds : List DV) (n : Int) (Q' : List Str → List DV → Int → Prop) (z : Addr), Cs W.toCf → ELink K W → Room k (A.deeper (envOfC qual scope s.heap.objs.size f cdv)) → sp ds n Q' W.E' →
      ∃ wd, PSs (cxOf (L2.CX P w) P w K mg base N qual scope f cdv A outer s H W.E) body (liftS K W wd) ∧ wd { nx := fun τ n => ∃ ns es, τ[0]? = some (some (.self z cl ns es)) ∧ Q' ns es n, rt := fun _ _ => False } (startI N z cl ds) n) :
    FnR P w K mg base (L2.CX P w) (k + 1) f (spStar K Cs cl sp) := by
  obtain ⟨oc, od, dV, kV, doc, pm, an, cdv, ct, osl, rfl, lk, hcd, hD, _⟩ := F.ex
  obtain rfl : dV = .none := by
    rcases hD with ⟨_, e⟩ | ⟨e, _⟩
    · exact e
    · exact absurd rfl e
  refine fn_star (ps := [p1, p2]) lk hcd S cxUp (hb kV doc pm an cdv ct) fun A outer s H vs Q E hr h => ?_
  obtain ⟨C, M, n, ds, Q', E', x, dx, us, rfl, hC, hb, xm, xb, al, bag, tab, hd, hx, hsp, hQ, hE⟩ := h
  have hl := hlen _ _ _ _ hsp
  have e := hd.length
  obtain ⟨wd, h1, h2⟩ := hbody cdv A outer s H ⟨C, [C.b, x], M, H, hb, by simp, E', E⟩ ds n Q' x hC (fun c ns ws es dd H' n' ey al' bag' tab' h1 h2 h3 h4 => hE c ns ws es dd H' n' ey al' bag' tab' h1 h2 h3 h4) hr hsp
  refine ⟨_, h1, [], [(0, x)], _, n, _, ?_, h2, fun σ' H' τ' n' O' q ⟨ns, es, hx', hq⟩ => ?_, fun _ _ _ _ _ _ h => h.elim, fun _ _ _ _ _ _ h => h.elim, fun v H' d n' r hq => hq.elim⟩
  · refine ⟨by simp [startI, L2.start, e], by simp [startI]; omega, fun i s hs => ?_, nofun, by simp [ad], fun p hp => ?_, Ey.refl H, bag, ⟨n, bag⟩, tab, fun y hy => ?_, al, fun y hy => ?_⟩
    · cases i with
      | zero =>
        cases hs
        exact ⟨.ref x, rfl, dx, [], rfl, by simp, hx, rfl, .nil⟩
      | succ i =>
        unfold startI at hs
        rw [List.getElem?_cons_succ] at hs
        by_cases hi : i < ds.length
        · rw [List.getElem?_append_left (by simpa using hi), List.getElem?_map] at hs
          obtain ⟨d, hd', e'⟩ := Option.map_eq_some_iff.mp hs
          cases e'
          obtain ⟨v, hv, k⟩ := hd.at hd'
          refine ⟨v, ?_, k⟩
          unfold L2.start
          rw [List.map_cons, List.cons_append, List.getElem?_cons_succ, List.getElem?_append_left (by simpa [e] using hi), List.getElem?_map, hv]
          rfl
        · rw [List.getElem?_append_right (by simpa using hi), List.getElem?_replicate] at hs
          split at hs <;> cases hs
    · rw [List.mem_singleton.mp hp]
      exact ⟨fun o _ => .inl (by simp), xm, xb⟩
    · rcases List.mem_append.mp hy with hy | hy
      · rw [show y = x by simpa [ad] using hy]
        exact ⟨_, hx, .inr ⟨_, _, _, rfl⟩⟩
      · exact al y hy
    · rcases List.mem_cons.mp hy with rfl | hy
      · exact .inl rfl
      · rw [List.mem_singleton.mp hy]
        exact .inr xm
  · obtain ⟨v, hv, dx', ws, e1, e2, e3, e4, e5⟩ := q.slot 0 _ hx'
    exact hQ H' dx' ws ns es n' q.ext (fun y hy => q.al y (List.mem_append_right _ hy)) q.bag q.tab e3 e4 (DatL.sub (fun y hy => List.mem_append_right _ hy) e5) hq
variable {W : Wc} {X : Cx} {e : Expr} {wr : WA} {Cs : Cf → Prop}
def wMakeS (cl : Str) (sp : ISp) (E' : XV) (wr : WA) : WE := fun τ n Q => wr τ n fun ds τ1 n1 => ∃ d rest, ds = d :: rest ∧ rest.length ≤ 1000000 ∧ sp [d, .tup rest] n1 (fun ns es n2 => Q (.ins cl ns es) τ1 n2) E'
theorem y_makeS {cl : Str} {sp : ISp} {E' : XV} {τ : ST} {n : Int} {Q : DV → ST → Int → Prop} (k : wr τ n fun ds τ1 n1 => ∃ d rest, ds = d :: rest ∧ rest.length ≤ 1000000 ∧ sp [d, .tup rest] n1 (fun ns es n2 => Q (.ins cl ns es) τ1 n2) E') : wMakeS cl sp E' wr τ n Q := k
theorem ve_makeS {cl : Str} {sp : ISp} {E' : XV} {E : XK} (hC : Cs W.toCf) (hE : ELinkG K W E' E) (h : PE X e (tMakeR (He.ga K cl) (spStar K Cs cl sp) E (liftA K W wr))) : PE X e (liftE K W (wMakeS cl sp E' wr)) := by
  refine BF.PE.imp h fun σ H Q ⟨Γ, O, τ, n, Q', q, hw, k⟩ => ?_
  refine ⟨Γ, O, τ, n, _, q, hw, fun vs H1 ds O1 τ1 n1 q1 d1 ⟨d, rest, ed, hl, hw1⟩ => fun x dx hx0 hdx hne => ?_⟩
  subst ed
  cases d1 with
  | @cons v us _ _ dv dl =>
    have e1 : BF.Ex [] H1 (upd H1 dx (.own x)) := BF.Ex.new hdx
    have hx1 : (upd H1 dx (.own x)) x = none := by rw [upd_ne (Ne.symm hne)]; exact hx0
    have e2 : BF.Ex [] (upd H1 dx (.own x)) (upd (upd H1 dx (.own x)) x (.ins (He.ga K cl) dx [])) := BF.Ex.new hx1
    have ex : BF.Ex [] H1 (upd (upd H1 dx (.own x)) x (.ins (He.ga K cl) dx [])) := fun y o m z => e2 y o m (e1 y o m z)
    refine ⟨[.ref x, v], us, rfl, rfl, by rw [dl.length]; exact BF.sz_of hl, fun p hp0 => ?_⟩
    have e3 : BF.Ex [] (upd (upd H1 dx (.own x)) x (.ins (He.ga K cl) dx [])) (upd (upd (upd H1 dx (.own x)) x (.ins (He.ga K cl) dx [])) p (.tup us)) := BF.Ex.new hp0
    have exx : BF.Ex [] H1 (upd (upd (upd H1 dx (.own x)) x (.ins (He.ga K cl) dx [])) p (.tup us)) := fun y o m z => e3 y o m (ex y o m z)
    have xm : x ∉ ad O1 ++ W.M0 := q1.al.out hx0
    have hpx : p ≠ x := fun z => by rw [z, upd_same] at hp0; cases hp0
    have hxp : (upd (upd (upd H1 dx (.own x)) x (.ins (He.ga K cl) dx [])) p (.tup us)) x = some (.ins (He.ga K cl) dx []) := by rw [upd_ne (Ne.symm hpx)]; exact upd_same
    have q2 := q1.ex exx
    have pm : p ∉ x :: (ad O1 ++ W.M0) := fun z => by
      rcases List.mem_cons.mp z with z | z
      · exact hpx z
      · obtain ⟨o, ho, _⟩ := (q1.ex ex).al p z
        rw [ho] at hp0
        cases hp0
    have dd : DatL K W.b (x :: (ad O1 ++ W.M0)) (upd (upd (upd H1 dx (.own x)) x (.ins (He.ga K cl) dx [])) p (.tup us)) [v, .ref p] [d, .tup rest] :=
      .cons (Dat.ey (Ey.ex0 exx) (Dat.fresh hx0 dv)) (.cons (.tup (TsM.of upd_same pm) (DatL.ey (Ey.ex0 exx) (DatL.fresh hx0 dl))) .nil)
    refine ⟨W.toCf, ad O1 ++ W.M0, n1, [d, .tup rest], _, E', x, dx, [v, .ref p], rfl, hC, List.mem_append_right _ W.bm, xm, fun z => ?_, q2.al, q2.bag, q2.tab, dd, hxp, hw1, fun H3 dx' ws ns es n' ey al' bag' tab' h1 h2 h3 hq => ⟨rfl, ?_⟩, fun c ns ws es dd H3 n' ey al' bag' tab' h1 h2 h3 h4 => ?_⟩
    · obtain ⟨o, ho, _⟩ := W.Ba q1.bag x z
      rw [hx0] at ho
      cases ho
    · exact k (.ref x) H3 _ O1 τ1 n' (q1.step (ey_new hx0 exx ey) bag' tab' al') (.ins h1 xm h2 h3) hq
    · have e1 := ey_new hx0 exx ey
      exact hE c ns ws es dd H3 n' (q1.ext.tr (e1.sub fun y hy => by rw [List.mem_singleton.mp hy]; exact W.bd)) (fun y hy => al' y (sub_M0 y hy)) bag' tab' h1 h2 (DatL.sub sub_M0 h3) h4
end
end VF
/-! ## .. is None step by step; plain data whose lists have a length -/
namespace VF
open PySem PySem.Spec PyProof.Rows L2
section
variable {P : DP} {neg : Bool}
theorem y_n_non (k : P (.bl (!neg))) : wIsN neg .non .non P := k
theorem y_n_bl {b : Bool} (k : P (.bl neg)) : wIsN neg (.bl b) .non P := k
theorem y_n_int {i : Int} (k : P (.bl neg)) : wIsN neg (.int i) .non P := k
theorem y_n_str {z : Str} (k : P (.bl neg)) : wIsN neg (.str z) .non P := k
theorem y_n_lst {ds : List DV} (k : P (.bl neg)) : wIsN neg (.lst ds) .non P := k
theorem y_n_tup {ds : List DV} (k : P (.bl neg)) : wIsN neg (.tup ds) .non P := k
end
theorem y_zipT {xs ys : List DV} {R : List DV → List DV → Prop} (k : R xs ys) : ∃ xs' ys', ([DV.tup xs, .tup ys] = [.lst xs', .lst ys'] ∨ [DV.tup xs, .tup ys] = [.tup xs', .tup ys']) ∧ R xs' ys' := ⟨xs, ys, .inr rfl, k⟩
mutual
/-- each list in it has a length that the model lets -/
def okL : DV → Bool
  | .lst ds => decide (ds.length ≤ 1000000) && okLs ds
  | .tup ds => decide (ds.length ≤ 1000000) && okLs ds
  | _ => true
def okLs : List DV → Bool
  | [] => true
  | d :: ds => okL d && okLs ds
end
theorem okLs_mem : ∀ {ds : List DV}, okLs ds = true ↔ ∀ d ∈ ds, okL d = true
  | [] => by simp [okLs]
  | d :: ds => by simp [okLs, okLs_mem (ds := ds)]
/-- plain data at most k deep, of lengths that the model lets -/
def Pz (k : Nat) (d : DV) : Prop := Pl k d ∧ okL d = true
theorem Pz.non {k : Nat} : Pz k .non := ⟨.non, rfl⟩
theorem Pz.bl {k : Nat} {b : Bool} : Pz k (.bl b) := ⟨.bl, rfl⟩
theorem Pz.int {k : Nat} {i : Int} : Pz k (.int i) := ⟨.int, rfl⟩
theorem Pz.str {k : Nat} {z : Str} (h : (PyData.str z).canLay0 = true) : Pz k (.str z) := ⟨.str h, rfl⟩
theorem Pz.lst {k : Nat} {ds : List DV} (h : ∀ d ∈ ds, Pz k d) (l : ds.length ≤ 1000000) : Pz (k + 1) (.lst ds) := ⟨.lst fun d hd => (h d hd).1, by simp only [okL, l, decide_true, Bool.true_and]; exact okLs_mem.mpr fun d hd => (h d hd).2⟩
theorem Pz.tup {k : Nat} {ds : List DV} (h : ∀ d ∈ ds, Pz k d) (l : ds.length ≤ 1000000) : Pz (k + 1) (.tup ds) := ⟨.tup fun d hd => (h d hd).1, by simp only [okL, l, decide_true, Bool.true_and]; exact okLs_mem.mpr fun d hd => (h d hd).2⟩
theorem Pz.of_lst {k : Nat} {ds : List DV} (h : Pz (k + 1) (.lst ds)) : ∀ d ∈ ds, Pz k d := fun d hd => ⟨h.1.of_lst d hd, okLs_mem.mp (by have := h.2; simp only [okL, Bool.and_eq_true] at this; exact this.2) d hd⟩
theorem Pz.of_tup {k : Nat} {ds : List DV} (h : Pz (k + 1) (.tup ds)) : ∀ d ∈ ds, Pz k d := fun d hd => ⟨h.1.of_tup d hd, okLs_mem.mp (by have := h.2; simp only [okL, Bool.and_eq_true] at this; exact this.2) d hd⟩
theorem Pz.len_lst {k : Nat} {ds : List DV} (h : Pz k (.lst ds)) : ds.length ≤ 1000000 := by have := h.2; simp only [okL, Bool.and_eq_true, decide_eq_true_eq] at this; exact this.1
theorem Pz.len_tup {k : Nat} {ds : List DV} (h : Pz k (.tup ds)) : ds.length ≤ 1000000 := by have := h.2; simp only [okL, Bool.and_eq_true, decide_eq_true_eq] at this; exact this.1
theorem Pz.mono {k l : Nat} {d : DV} (h : Pz k d) (hl : k ≤ l) : Pz l d := ⟨h.1.mono hl, h.2⟩
theorem zip_self : ∀ {ds : List DV}, zipD ds ds = ds.map fun d => .tup [d, d]
  | [] => rfl
  | d :: ds => by
    have := zip_self (ds := ds)
    simp only [zipD, List.zipWith_cons_cons, List.map_cons] at this ⊢
    rw [this]
theorem all_true {α : Type} : ∀ {ds : List α}, (ds.all fun _ => true) = true
  | [] => rfl
  | _ :: ds => by simp
end VF
/-! ## .. op l, of a list l of a slot's own: it stays the slot's own -/
namespace VF
open PySem PySem.Spec PyProof.Rows L2
section
variable {K : PySem.W.Frag} {W : Wc} {X : Cx} {e a b : Expr} {wa : WE} {τ : ST} {n : Int} {Q : DV → ST → Int → Prop} {P : DP} {pos : Pos} {i : Nat}
def wOpV (w : DV → DV → DP → Prop) (wa : WE) (i : Nat) : WE := fun τ n Q => wa τ n fun d τ1 n1 => ∃ xs, τ1[i]? = some (some (.own xs)) ∧ w d (.lst xs) fun f => ∃ c, f = .bl c ∧ Q (.bl c) τ1 n1
theorem liftV {r : R2} {w : DV → DV → DP → Prop} (hd : DOp K r w) {σ : L2.St} {H : Hp} {Q : VK} (h : liftE K W (wOpV w wa i) σ H Q) : tOp r (liftE K W wa) (tVar i) σ H Q := by
  obtain ⟨Γ, O, τ, n, Q', q, hw, k⟩ := h
  refine ⟨Γ, O, τ, n, _, q, hw, fun u H1 d O1 τ1 n1 q1 d1 ⟨xs, hs, hq⟩ => ?_⟩
  obtain ⟨v, hv, a, vs, e1, e2, e3, e4⟩ := q1.slot i _ hs
  subst e1
  refine ⟨_, hv, hd W.b [] H1 u (.ref a) d (.lst xs) _ Q (fun _ h => (List.not_mem_nil h).elim) (d1.sub fun _ h => (List.not_mem_nil h).elim) (.lst ⟨e3, by simp⟩ (e4.sub fun _ h => (List.not_mem_nil h).elim)) hq fun z H2 f ex df ⟨c, ef, qf⟩ => ?_⟩
  subst ef
  cases df
  exact k _ H2 _ O1 τ1 n1 (q1.ex ex) (.bl c) qf
theorem ve_opV {op : CmpOp} {r : R2} {w : DV → DV → DP → Prop} (ho : OpR X (compareOp op) r) (hd : DOp K r w) (ha : PE X a (liftE K W wa)) (hb : PE X b (tVar i)) (hm : behindInMarks op b = false) : PE X (.Compare a [op] [b] pos) (liftE K W (wOpV w wa i)) := BF.PE.imp (pe_cmpR ho ha hb hm) fun _ _ _ q => liftV hd q
theorem vt_opV {op : CmpOp} {r : R2} {w : DV → DV → DP → Prop} (ho : OpR X (compareOp op) r) (hd : DOp K r w) (ha : PE X a (liftE K W wa)) (hb : PE X b (tVar i)) (hm : behindInMarks op b = false) : PT X (.Compare a [op] [b] pos) (liftT K W (wB (wOpV w wa i))) := PT.imp (pt_cmpR ho ha hb hm) fun σ H Q h => liftV hd (liftB h)
theorem y_opV {w : DV → DV → DP → Prop} (k : wa τ n fun d τ1 n1 => ∃ xs, τ1[i]? = some (some (.own xs)) ∧ w d (.lst xs) fun f => ∃ c, f = .bl c ∧ Q (.bl c) τ1 n1) : wOpV w wa i τ n Q := k
theorem y_opV2 {xs : List DV} {R : List DV → Prop} (h : τ[i]? = some (some (.own xs))) (k : R xs) : ∃ xs, τ[i]? = some (some (.own xs)) ∧ R xs := ⟨xs, h, k⟩
theorem y_rng2 {wr : WA} {QA : List DV → ST → Int → Prop} (k : wr τ n fun ds τ1 n1 => ∃ i j, ds = [.int i, .int j] ∧ -1000000000000 ≤ i ∧ i ≤ 1000000000000 ∧ -1000000000000 ≤ j ∧ j ≤ 1000000000000 ∧ QA (rngD i (j - i).toNat) τ1 n1) : wRng2 wr τ n QA := k
theorem y_rng2b {y z : Int} {R : Int → Int → Prop} (h0 : -1000000000000 ≤ y) (h1 : y ≤ 1000000000000) (h2 : -1000000000000 ≤ z) (h3 : z ≤ 1000000000000) (k : R y z) : ∃ i j, [DV.int y, .int z] = [.int i, .int j] ∧ -1000000000000 ≤ i ∧ i ≤ 1000000000000 ∧ -1000000000000 ≤ j ∧ j ≤ 1000000000000 ∧ R i j := ⟨y, z, rfl, h0, h1, h2, h3, k⟩
end
end VF
local macro_rules | `(tactic| walk_at "v4") => `(tactic| (with_reducible first | refine' VF.y_n_non ?_ | refine' VF.y_n_bl ?_ | refine' VF.y_n_int ?_ | refine' VF.y_n_str ?_ | refine' VF.y_n_lst ?_ | refine' VF.y_n_tup ?_ | refine' VF.y_zipT ?_ | refine' VF.y_opV ?_ | refine' VF.y_rng2 ?_))
local macro_rules | `(tactic| walk_at "vx") => `(tactic| repeat (first | ((with_reducible first | refine' VF.y_seq ?_ | refine' VF.y_next ?_ | refine' VF.y_set ?_ | refine' VF.y_setO ?_ | refine' VF.y_asg ?_ | refine' VF.y_par ?_ | refine' VF.y_par2 ?_ | refine' VF.y_parO1 ?_ | refine' VF.y_parO2 ?_ | refine' VF.y_ret ?_ | refine' VF.y_retN ?_ | refine' VF.y_ifS ?_ | refine' VF.y_drop ?_ | refine' VF.y_brk ?_ | refine' VF.y_cnt ?_ | refine' VF.y_setI ?_ | refine' VF.y_for ?_ | refine' VF.y_raise ?_ | refine' VF.y_c ?_ | refine' VF.y_op ?_ | refine' VF.y_un ?_ | refine' VF.y_nil ?_ | refine' VF.y_cons ?_ | refine' VF.y_cb ?_ | refine' VF.y_tup ?_ | refine' VF.y_lst ?_ | refine' VF.y_lstO ?_ | refine' VF.y_B ?_ | refine' VF.y_bl ?_ | refine' VF.y_and ?_ | refine' VF.y_or ?_ | refine' VF.y_not ?_ | refine' VF.y_andV ?_ | refine' VF.y_orV ?_ | refine' VF.y_notV ?_ | refine' VF.y_if ?_ | refine' VF.y_sl ?_ | refine' VF.y_P0 ?_ | refine' VF.y_P1 ?_ | refine' VF.y_int ?_ | refine' VF.y_chain ?_ | refine' VF.y_call ?_ | refine' VF.y_meth ?_ | refine' VF.y_fld ?_ | refine' VF.y_OL ?_ | refine' VF.y_lc ?_ | refine' VF.y_yes ?_ | refine' VF.y_name ?_ | refine' VF.y_gnil ?_ | refine' VF.y_gcons ?_ | refine' VF.y_rng1 ?_ | refine' VF.y_zip ?_ | refine' VF.y_zipL ?_ | refine' VF.y_iL ?_ | refine' VF.y_iT ?_ | refine' VF.y_tru (b := true) ?_ | refine' VF.y_listO ?_ | refine' VF.y_listO1 ?_ | refine' VF.y_listO2 ?_ | refine' VF.y_own2 ?_ | refine' VF.y_own2N ?_ | refine' VF.y_own2b ?_ | refine' VF.y_addI ?_ | refine' VF.y_I0 ?_ | refine' VF.y_IB ?_ | refine' VF.y_neg ?_ | refine' VF.y_slL ?_ | refine' VF.y_slT ?_ | refine' VF.y_lenL ?_ | refine' VF.y_lenT ?_ | refine' VF.y_listL ?_ | refine' VF.y_listT ?_ | refine' VF.y_tupL ?_ | refine' VF.y_tupT ?_ | refine' VF.y_intI ?_ | refine' VF.y_abs ?_ | refine' VF.y_max ?_ | refine' VF.y_min ?_ | refine' VF.y_eqI ?_ | refine' VF.y_neI ?_ | refine' VF.y_eqS ?_ | refine' VF.y_neS ?_ | refine' VF.y_eqB ?_ | refine' VF.y_neB ?_ | refine' BF.x_iteY ?_ | refine' BF.x_iteNo ?_)) | (first | ((with_reducible apply VF.y_nx); ((first | (simp only [List.set_cons_succ, List.set_cons_zero]; done) | (simp only [List.set_cons_succ, List.set_cons_zero]; rfl) | rfl))) | ((with_reducible apply VF.y_nxG); ((first | (simp only [List.set_cons_succ, List.set_cons_zero]; done) | (simp only [List.set_cons_succ, List.set_cons_zero]; rfl) | rfl)))) | (first | ((with_reducible apply VF.y_var); (with_unfolding_all rfl)) | ((with_reducible apply VF.y_varF); (with_unfolding_all rfl)) | ((with_reducible apply VF.y_varO); (with_unfolding_all rfl)) | ((with_reducible apply VF.y_ixL); (with_unfolding_all rfl)) | ((with_reducible apply VF.y_ixT); (with_unfolding_all rfl)) | ((with_reducible apply VF.y_gtup); (with_unfolding_all rfl)) | ((with_reducible apply VF.y_len1); (simp only [List.length_cons, List.length_nil]; omega)) | ((with_reducible apply VF.y_I); ((first | ((with_reducible refine BF.cpow_of ?_ ?_ ?_ ?_) <;> omega) | ((with_reducible refine BF.cmul_of ?_ ?_ ?_ ?_) <;> omega) | ((with_reducible refine BF.cdiv_of ?_ ?_) <;> omega) | (show (0 : Int) < _; omega)))) | ((with_reducible apply VF.y_rng1b); omega; omega) | ((with_reducible apply VF.y_lenO); (with_unfolding_all rfl)) | ((with_reducible apply VF.y_lenD); (with_unfolding_all rfl)) | ((with_reducible apply VF.y_ixVO); (with_unfolding_all rfl)) | ((with_reducible apply VF.y_ixVL); (with_unfolding_all rfl)) | ((with_reducible apply VF.y_app); (with_unfolding_all rfl)) | ((with_reducible apply VF.y_ins); (with_unfolding_all rfl)) | ((with_reducible apply VF.y_setI1); (with_unfolding_all rfl)) | ((with_reducible apply VF.y_fld2); (assumption); (with_unfolding_all rfl)) | ((with_reducible apply VF.y_noOwn); (with_unfolding_all rfl)) | ((with_reducible apply VF.y_wipe); (with_unfolding_all rfl)) | ((with_reducible apply VF.y_acc); (assumption)) | ((with_reducible apply VF.y_tru1); (with_unfolding_all rfl))) | ((with_reducible first | refine' VF.y_iseq' ?_ | refine' VF.y_seqL ?_ | refine' VF.y_seqT ?_ | refine' VF.y_enT ?_ | refine' VF.y_tupZ ?_ | refine' VF.y_lsI ?_ | refine' VF.y_lsT ?_ | refine' VF.y_join ?_ | refine' VF.y_fs ?_ | refine' VF.y_revL ?_ | refine' VF.y_lr1 ?_ | refine' VF.y_lrO ?_ | refine' VF.y_tix ?_ | refine' VF.y_i_non_int ?_ | refine' VF.y_i_non_bool ?_ | refine' VF.y_i_non_str ?_ | refine' VF.y_i_non_list ?_ | refine' VF.y_i_non_tuple ?_ | refine' VF.y_iLT_non ?_ | refine' VF.y_i_bl_int ?_ | refine' VF.y_i_bl_bool ?_ | refine' VF.y_i_bl_str ?_ | refine' VF.y_i_bl_list ?_ | refine' VF.y_i_bl_tuple ?_ | refine' VF.y_iLT_bl ?_ | refine' VF.y_i_int_int ?_ | refine' VF.y_i_int_bool ?_ | refine' VF.y_i_int_str ?_ | refine' VF.y_i_int_list ?_ | refine' VF.y_i_int_tuple ?_ | refine' VF.y_iLT_int ?_ | refine' VF.y_i_str_int ?_ | refine' VF.y_i_str_bool ?_ | refine' VF.y_i_str_str ?_ | refine' VF.y_i_str_list ?_ | refine' VF.y_i_str_tuple ?_ | refine' VF.y_iLT_str ?_ | refine' VF.y_i_lst_int ?_ | refine' VF.y_i_lst_bool ?_ | refine' VF.y_i_lst_str ?_ | refine' VF.y_i_lst_list ?_ | refine' VF.y_i_lst_tuple ?_ | refine' VF.y_iLT_lst ?_ | refine' VF.y_i_tup_int ?_ | refine' VF.y_i_tup_bool ?_ | refine' VF.y_i_tup_str ?_ | refine' VF.y_i_tup_list ?_ | refine' VF.y_i_tup_tuple ?_ | refine' VF.y_iLT_tup ?_)) | ((with_reducible first | refine' VF.y_n_non ?_ | refine' VF.y_n_bl ?_ | refine' VF.y_n_int ?_ | refine' VF.y_n_str ?_ | refine' VF.y_n_lst ?_ | refine' VF.y_n_tup ?_ | refine' VF.y_zipT ?_ | refine' VF.y_opV ?_ | refine' VF.y_rng2 ?_)) | (first | ((with_reducible apply VF.y_rng2b); omega; omega; omega; omega) | ((with_reducible apply VF.y_opV2); (with_unfolding_all rfl))) | (first | with_reducible refine' BF.x_iteT (by with_unfolding_all rfl) ?_ | with_reducible refine' BF.x_iteF (by with_unfolding_all rfl) ?_ | with_reducible refine' BF.x_iteT (decide_eq_true rfl) ?_)))
local macro_rules | `(tactic| walk_at "v5") => `(tactic| first | ((with_reducible apply VF.y_rng2b); omega; omega; omega; omega) | ((with_reducible apply VF.y_opV2); (with_unfolding_all rfl)))
/-! ## zip of a list and a tuple, or of two tuples -/
namespace GA
open PySem PySem.Spec PyProof.Rows L2
open AutoSeq1 (wpAny_loadPart')
abbrev zm1 (h : Heap) (l1 : Addr) : Heap := h.push { cls := .type "list_iterator", data := .fields #[.ref l1, .int 0 0] }
abbrev zm2 (h : Heap) (l1 l2 : Addr) : Heap := (zm1 h l1).push { cls := .type "tuple_iterator", data := .fields #[.ref l2, .int 0 0] }
abbrev zm3 (h : Heap) (l1 l2 : Addr) : Heap := (zm2 h l1 l2).push { cls := .type "tuple", data := .seq #[.ref h.objs.size, .ref (zm1 h l1).objs.size] }
abbrev zm4 (h : Heap) (l1 l2 : Addr) : Heap := (zm3 h l1 l2).push { cls := .type "tuple", data := .seq #[.none, .none] }
abbrev zm5 (h : Heap) (l1 l2 : Addr) : Heap := (zm4 h l1 l2).push { cls := .type "zip", data := .fields #[.none, .bool false, .bool false, .ref (zm2 h l1 l2).objs.size, .ref (zm3 h l1 l2).objs.size] }
theorem zipM_new (l1 l2 : Addr) (xs ys : Array Value) :
    Meets (Builtin.«zip.__new__» ⟨[.type "zip", .ref l1, .ref l2], []⟩) (fun _ R s => s.heap.IsList l1 xs ∧ s.heap.IsTuple l2 ys ∧
      R (.ok (.ret (.ref (zm4 s.heap l1 l2).objs.size))) { s with heap := zm5 s.heap l1 l2 }) :=
  .of_wp fun prog w A R s h => by
    obtain ⟨hp, g, d, tk, os⟩ := s
    obtain ⟨hl1, hl2, h⟩ := h
    have hsub := sub_zip
    have hL1 : Heap.IsList (Shared.heap ⟨hp, g, d, tk, os⟩) l1 xs := hl1
    have hL2 : Heap.IsTuple (Shared.heap ⟨hp.push { cls := .type "list_iterator", data := .fields #[.ref l1, .int 0 0] }, g, d, tk, os⟩) l2 ys := Heap.IsTuple.push hl2 _
    wp_walk using wpAny_pyIter_list hL1, wpAny_pyIter_tuple hL2
    exact ⟨_, rfl, h⟩
section
variable {prog : Program} {w : World} {A : Around} {E : Value → Shared → Prop} {s : Shared}
theorem call_zipM {l1 l2 : Addr} {xs ys : Array Value} {Q : Value → Shared → Prop} (hl1 : s.heap.IsList l1 xs) (hl2 : s.heap.IsTuple l2 ys)
    (h : ∀ h', IsZip h' (s.heap.objs.size + 4) (s.heap.objs.size + 2) (s.heap.objs.size + 3) .none → IsPair h' (s.heap.objs.size + 2) (.ref s.heap.objs.size) (.ref (s.heap.objs.size + 1)) →
      IsPair h' (s.heap.objs.size + 3) .none .none → h'.IsListIter s.heap.objs.size l1 0 → h'.IsTupleIter (s.heap.objs.size + 1) l2 0 → h'.objs.size = s.heap.objs.size + 5 →
      (∀ c o, s.heap.get? c = some o → h'.get? c = some o) → Q (.ref (s.heap.objs.size + 4)) { s with heap := h' }) :
    wpAny (model prog w) A (call (.type "zip") [.ref l1, .ref l2]) Q E s := by
  refine callType_new F.called_zip (by decide) (F.typeCall_zip_2 _ _) (F.newCall_zip_2 _ _) (fun obj => F.args_object_init_3 obj _ _) F.entry_zip_new (zipM_new l1 l2 xs ys) ⟨hl1, hl2, ?_⟩
  have z1 : (zm1 s.heap l1).objs.size = s.heap.objs.size + 1 := Heap.size_push ..
  have z2 : (zm2 s.heap l1 l2).objs.size = s.heap.objs.size + 2 := by rw [Heap.size_push, z1]
  have z3 : (zm3 s.heap l1 l2).objs.size = s.heap.objs.size + 3 := by rw [Heap.size_push, z2]
  have z4 : (zm4 s.heap l1 l2).objs.size = s.heap.objs.size + 4 := by rw [Heap.size_push, z3]
  have z5 : (zm5 s.heap l1 l2).objs.size = s.heap.objs.size + 5 := by rw [Heap.size_push, z4]
  have up : ∀ {h : Heap} {a : Addr} {o p : Obj}, h.get? a = some o → (h.push p).get? a = some o := fun e => Heap.get?_push_of_some _ e
  have g5 : (zm5 s.heap l1 l2).get? (zm4 s.heap l1 l2).objs.size = some _ := Heap.get?_push_size _ rfl
  have g4 : (zm5 s.heap l1 l2).get? (zm3 s.heap l1 l2).objs.size = some _ := up (Heap.get?_push_size _ rfl)
  have g3 : (zm5 s.heap l1 l2).get? (zm2 s.heap l1 l2).objs.size = some _ := up (up (Heap.get?_push_size _ rfl))
  have g2 : (zm5 s.heap l1 l2).get? (zm1 s.heap l1).objs.size = some _ := up (up (up (Heap.get?_push_size _ rfl)))
  have g1 : (zm5 s.heap l1 l2).get? s.heap.objs.size = some _ := up (up (up (up (Heap.get?_push_size _ rfl))))
  show _ ∧ _
  rw [z2, z3, z4] at g5
  rw [z1, z2] at g3
  rw [z3] at g4
  rw [z1] at g2
  rw [z4]
  exact ⟨⟨_, g5, rfl⟩, h _ g5 g3 g4 ⟨_, g1, rfl, rfl⟩ ⟨_, g2, rfl, rfl⟩ z5 fun c o x => up (up (up (up (up x))))⟩
end
/-- the list at a and the tuple at b as they stand at each turn, the items in new pairs -/
def ItzM (K : PySem.W.Frag) (a b : Addr) : It :=
  ⟨fun i H => ∃ (xs ys : List V) (x y : V), SqL K H a xs ∧ SqT K H b ys ∧ xs[i]? = some x ∧ ys[i]? = some y,
    fun i H v H' => ∃ T x y, v = .ref T ∧ H T = none ∧ H' = upd H T (.tup [x, y]) ∧ (∀ xs, SqL K H a xs → xs[i]? = some x) ∧ ∀ ys, SqT K H b ys → ys[i]? = some y,
    fun i H => ∃ xs ys : List V, SqL K H a xs ∧ SqT K H b ys ∧ xs.length = i ∧ ys.length = i⟩
def StM (z TI TO i1 i2 a b : Addr) (i : Nat) (h : Heap) : Prop := IsZip h z TI TO .none ∧ IsPair h TI (.ref i1) (.ref i2) ∧ (∃ x y, IsPair h TO x y) ∧ h.IsListIter i1 a i ∧ h.IsTupleIter i2 b i
theorem sep_of {z TI TO i1 i2 a b : Addr} (D : ZipApart z TI TO i1 i2 a b) : ZipSep2 z TI TO i1 i2 [i1, a] [i2, b] := by
  constructor
  · exact D.TIz
  · exact D.TOz
  · exact D.TITO
  · exact D.TIi1
  · simp
  · simp [D.i1z.symm, D.l1z.symm]
  · simp [D.TOi1, D.l1TO.symm]
  · exact D.TIi2
  · simp
  · simp [D.i2z.symm, D.l2z.symm]
  · simp [D.TOi2, D.l2TO.symm]
  · simp [D.i12, D.l2i1.symm]
  · simp [D.i12.symm, D.l1i2.symm]
theorem turn_zipM {P : Program} {w : World} {K : PySem.W.Frag} {elts : List Expr} {kk : Nat} {tpos : Pos} {a b z TI TO i1 i2 : Addr} (D : ZipApart z TI TO i1 i2 a b) :
    Turn P w K (.Tuple elts kk tpos) (ItzM K a b) [z, TI, TO, i1, i2] z (StM z TI TO i1 i2 a b) where
  mem := by simp
  obj := fun i h st c hc => by
    obtain ⟨hz, hTI, ⟨x, y, hTO⟩, ⟨o1, e1, _, d1⟩, ⟨o2, e2, _, d2⟩⟩ := st
    have e' : c = z ∨ c = TI ∨ c = TO ∨ c = i1 ∨ c = i2 := by simpa using hc
    rcases e' with q | q | q | q | q
    · rw [q]; exact ⟨_, hz, fun v q => nomatch q⟩
    · rw [q]; exact ⟨_, hTI, fun v q => nomatch q⟩
    · rw [q]; exact ⟨_, hTO, fun v q => nomatch q⟩
    · rw [q]; exact ⟨o1, e1, fun v q => by rw [d1] at q; cases q⟩
    · rw [q]; exact ⟨o2, e2, fun v q => by rw [d2] at q; cases q⟩
  keep := fun i h h' st k => by
    obtain ⟨hz, hTI, ⟨x, y, hTO⟩, h1, h2⟩ := st
    exact ⟨k z (by simp) _ hz, k TI (by simp) _ hTI, ⟨x, y, k TO (by simp) _ hTO⟩, h1.at fun o q => k i1 (by simp) o q, h2.at fun o q => k i2 (by simp) o q⟩
  item := by
    intro X hP hw hK hc i pins s σ H E I hf st hg
    subst hP hw hK
    obtain ⟨hz, hTI, ⟨x0, y0, hTO⟩, h1, h2⟩ := st
    obtain ⟨xs, ys, x, y, hqx, hqy, hx, hy⟩ := hg
    obtain ⟨its, rv, p, _⟩ := I.list hqx
    obtain ⟨its2, rv2, p2, _⟩ := I.tuple hqy
    obtain ⟨u, hu, ru⟩ := rv.get hx
    obtain ⟨u2, hu2, ru2⟩ := rv2.get hy
    have hzl : z < s.heap.objs.size := Heap.lt_size hz
    have hlt1 : i < its.toArray.size := by
      have := (List.getElem?_eq_some_iff.mp hu).1
      simpa using this
    have hlt2 : i < its2.toArray.size := by
      have := (List.getElem?_eq_some_iff.mp hu2).1
      simpa using this
    refine wpAny_pyNext_zipD2_item (sep_of D) (Draws.list (A := X.A.in1) (show X.A.in1.handled = none from I.ok.hd hc) i1 a D.l1i1 its.toArray) (Draws.tuple (A := X.A.in1) (show X.A.in1.handled = none from I.ok.hd hc) i2 b D.l2i2 its2.toArray)
      hz hTI hTO ⟨h1, p.isList⟩ ⟨h2, p2⟩ hlt1 hlt2 fun x1 x2 h' tk ex1 ex2 z' TO' st1 st2 hT hsz hk => ?_
    have e1 : x1 = u := by
      have : its.toArray[i]? = some u := by simpa using hu
      rw [this] at ex1
      exact (Option.some.inj ex1).symm
    have e2 : x2 = u2 := by
      have : its2.toArray[i]? = some u2 := by simpa using hu2
      rw [this] at ex2
      exact (Option.some.inj ex2).symm
    subst e1 e2
    refine ⟨_, rfl, wpAny_letOwnedTupleGo_zip (s := { s with heap := h', toks := tk }) z' fun h'' z'' sb => ?_⟩
    have hT2 : h''.get? s.heap.objs.size = some { cls := .type "tuple", data := .seq #[x1, x2] } := (sb.2 _ (Nat.ne_of_gt hzl)).trans hT
    have new : ObjOk X.prog X.w (upd H s.heap.objs.size (.tup [x, y])) h'' s.heap.objs.size (.tup [x, y]) :=
      ⟨by show 2 ≤ sizeLine; decide, [x1, x2], .cons ru (.cons ru2 .nil), ⟨_, hT2, rfl, _, rfl⟩⟩
    have I1 : Inv X pins σ (upd H s.heap.objs.size (.tup [x, y])) { s with heap := h'', toks := tk } :=
      I.turnedNew (t' := tk) (ch := [z, TI, TO, i1, i2]) (fun c o hb q => (sb.2 c (fun q' => hb (by simp [q']))).trans (hk c o (fun q' => hb (by simp [q'])) (fun q' => hb (by simp [q'])) (fun q' => hb (by simp [q'])) (fun q' => hb (by simp [q'])) q)) hf (Nat.le_refl _) new
    refine ⟨.ref s.heap.objs.size, _, I1, rfl, ⟨_, x, y, rfl, I.hok.fresh (Nat.le_refl _), rfl, fun l hl => by rw [I.list_inj hl hqx]; exact hx, fun l hl => by rw [I.tuple_inj hl hqy]; exact hy⟩, ⟨z'', ?_, ⟨x1, x2, ?_⟩, ?_, ?_⟩, fun c hcm => ?_⟩
    · exact (sb.2 _ D.TIz).trans (hk _ _ D.TIz D.TITO D.TIi1 D.TIi2 hTI)
    · exact (sb.2 _ D.TOz).trans TO'
    · exact st1.1.at fun o q => (sb.2 _ D.i1z).trans q
    · exact st2.1.at fun o q => (sb.2 _ D.i2z).trans q
    · have hlt : c < s.heap.objs.size := by
        have e' : c = z ∨ c = TI ∨ c = TO ∨ c = i1 ∨ c = i2 := by simpa using hcm
        rcases e' with q | q | q | q | q
        · rw [q]; exact hzl
        · rw [q]; exact Heap.lt_size hTI
        · rw [q]; exact Heap.lt_size hTO
        · rw [q]; obtain ⟨_, e1, _⟩ := h1; exact Heap.lt_size e1
        · rw [q]; obtain ⟨_, e2, _⟩ := h2; exact Heap.lt_size e2
      rw [upd_ne (Nat.ne_of_lt hlt)]
      exact (hf c hcm).1
  done := by
    intro X hP hw hK hc i pins s σ H E I hf st hg
    subst hP hw hK
    obtain ⟨hz, hTI, ⟨x0, y0, hTO⟩, h1, h2⟩ := st
    obtain ⟨xs, ys, hqx, hqy, c1, c2⟩ := hg
    obtain ⟨its, rv, p, _⟩ := I.list hqx
    obtain ⟨its2, rv2, p2, _⟩ := I.tuple hqy
    have l1 : i = its.toArray.size := by have := rv.length; simp; omega
    have l2 : i = its2.toArray.size := by have := rv2.length; simp; omega
    exact wpAny_pyNext_zipD2_end (sep_of D) (Draws.list (A := X.A.in1) (show X.A.in1.handled = none from I.ok.hd hc) i1 a D.l1i1 its.toArray) (Draws.tuple (A := X.A.in1) (show X.A.in1.handled = none from I.ok.hd hc) i2 b D.l2i2 its2.toArray)
      hz hTI hTO ⟨h1, p.isList⟩ ⟨h2, p2⟩ (Nat.le_of_eq l1) (Nat.le_of_eq l2) (.inl l1) fun h' tk hk => ⟨rfl, I.turnedL (t' := tk) (ch := [z, TI, TO, i1, i2]) (fun c o hb q => hk c o (fun q' => hb (by simp [q'])) (fun q' => hb (by simp [q'])) (fun q' => hb (by simp [q'])) (fun q' => hb (by simp [q'])) q) hf⟩
  self := fun A i s Q E st h => wpAny_pyIter_zip st.1 h
/-- zip(x, t), x a list or a tuple -/
def iZipM (K : PySem.W.Frag) (ta : TA) : TI := fun σ H R => ta σ H fun vs H1 => ∃ a b xs ys, vs = [.ref a, .ref b] ∧ ((SqL K H1 a xs ∧ SqT K H1 b ys ∧ R (ItzM K a b) H1) ∨ (SqT K H1 a xs ∧ SqT K H1 b ys ∧ R (RZ.ItzT K a b) H1))
theorem pi_zipM {X : Cx} {e e2 : Expr} {ta : TA} {p pos tpos : Pos} {elts : List Expr} {kk : Nat} (hg : Gl X "zip") (hm : X.mg "zip" = none) (ha : PA X [e, e2] ta)
    (hs : starEach [e, e2] X.env = (false, eval e X.env) :: starEach [e2] X.env := by rfl) (hpl : (backTo pos (starEach [e2] X.env)).any (·.1) = false := by rfl) :
    PI X (.Tuple elts kk tpos) (.Call (.Name "zip" p) [e, e2] [] pos) (iZipM X.K ta) := by
  refine ⟨fun pins s σ H R I h => ?_⟩
  refine Call_ (ld_blt I hg hm PyProof.Rows.boot_zip (PyProof.Rows.callWith_type1 (thn (ha.run pos pins s σ H _ I h) fun us s1 ⟨vs, H1, I1, r1, q1⟩ => ?_) hs hpl))
  obtain ⟨a, b, xs, ys, ex, q1⟩ := q1
  subst ex
  cases r1 with
  | cons r rr =>
    cases rr with
    | cons r' rr =>
      cases rr
      cases r
      cases r'
      have fr : ∀ c, c ∈ [s1.heap.objs.size + 4, s1.heap.objs.size + 2, s1.heap.objs.size + 3, s1.heap.objs.size, s1.heap.objs.size + 1] → FpOk X pins H1 c := fun c hcm => by
        have hle : s1.heap.objs.size ≤ c := by
          simp only [List.mem_cons, List.not_mem_nil, or_false] at hcm
          rcases hcm with z | z | z | z | z <;> rw [z] <;> first | exact Nat.le_add_right _ _ | exact Nat.le_refl _
        exact I1.fpOk hle (I1.hok.fresh hle)
      rcases q1 with ⟨hqx, hqy, q⟩ | ⟨hqx, hqy, q⟩
      · obtain ⟨its, rv, p1, _⟩ := I1.list hqx
        obtain ⟨its2, rv2, p2, _⟩ := I1.tuple hqy
        obtain ⟨o2, ho2, _⟩ := id p2
        refine call_zipM p1.isList (show s1.heap.IsTuple b its2.toArray from p2) fun h' hz hTI hTO h1 h2 hsz hk => wpAny_pyIter_zip hz ?_
        have I2 : Inv X pins σ H1 { s1 with heap := h' } := I1.kept (t' := s1.toks) hk
        exact ⟨s1.heap.objs.size + 4, [s1.heap.objs.size + 4, s1.heap.objs.size + 2, s1.heap.objs.size + 3, s1.heap.objs.size, s1.heap.objs.size + 1], _, _, H1, rfl, I2, turn_zipM (PySem.W.ktu_apart s1.heap.objs.size a b p1.lt (Heap.lt_size ho2)), ⟨hz, hTI, ⟨_, _, hTO⟩, h1, h2⟩, fr, q⟩
      · obtain ⟨its, rv, p1, _⟩ := I1.tuple hqx
        obtain ⟨its2, rv2, p2, _⟩ := I1.tuple hqy
        obtain ⟨o1, ho1, _⟩ := id p1
        obtain ⟨o2, ho2, _⟩ := id p2
        refine RZ.call_zipT (show s1.heap.IsTuple a its.toArray from p1) (show s1.heap.IsTuple b its2.toArray from p2) fun h' hz hTI hTO h1 h2 hsz hk => wpAny_pyIter_zip hz ?_
        have I2 : Inv X pins σ H1 { s1 with heap := h' } := I1.kept (t' := s1.toks) hk
        exact ⟨s1.heap.objs.size + 4, [s1.heap.objs.size + 4, s1.heap.objs.size + 2, s1.heap.objs.size + 3, s1.heap.objs.size, s1.heap.objs.size + 1], _, _, H1, rfl, I2, RZ.turn_zipT (PySem.W.ktu_apart s1.heap.objs.size a b (Heap.lt_size ho1) (Heap.lt_size ho2)), ⟨hz, hTI, ⟨_, _, hTO⟩, h1, h2⟩, fr, q⟩
theorem walk_zipM {K : PySem.W.Frag} {a b : Addr} {xs ys : List V} {n : Nat} (hx : xs.length = n) (hy : ys.length = n) : Walk (ItzM K a b) n (fun H => SqL K H a xs ∧ SqT K H b ys) (YPair (fun i => xs[i]?) (fun i => ys[i]?)) :=
  ⟨fun i _ hi q => ⟨xs, ys, xs[i], ys[i], q.1, q.2, by simp [hx, hi], by simp [hy, hi]⟩, fun _ q => ⟨xs, ys, q.1, q.2, hx, hy⟩, fun i H v H' _ q y => by
    obtain ⟨T, x, z, h1, h2, h3, h4, h5⟩ := y
    exact ⟨T, x, z, h1, h2, h3, h4 xs q.1, h5 ys q.2⟩⟩
end GA
namespace VF
open PySem PySem.Spec PyProof.Rows L2
section
variable {K : PySem.W.Frag} {W : Wc} {X : Cx} {tg e : Expr} {wr : WA}
/-- zip(x, t): as many items in both -/
def wZipM (wr : WA) : WA := fun τ n Q => wr τ n fun ds τ1 n1 => ∃ xs ys, xs.length = ys.length ∧ (ds = [.lst xs, .tup ys] ∨ ds = [.tup xs, .tup ys]) ∧ Q (zipD xs ys) τ1 n1
theorem vi_zipM (h : PI X tg e (GA.iZipM K (liftA K W wr))) : PI X tg e (liftI K W (wZipM wr)) := PI.imp h fun σ H R ⟨Γ, O, τ, n, Q', q, hw, k⟩ => ⟨Γ, O, τ, n, _, q, hw, fun vs H1 ds O1 τ1 n1 q1 d1 ⟨xs, ys, el, ed, hq⟩ => by
  rcases ed with ed | ed
  · subst ed
    cases d1 with
    | cons h1 h2 =>
      cases h2 with
      | cons h2 h3 =>
        cases h3
        cases h1 with
        | @lst a us _ a1 a2 =>
          cases h2 with
          | @tup c ws _ b1 b2 =>
            refine ⟨a, c, us, ws, rfl, .inl ⟨SqL.of a1.1, b1.1, k _ H1 [.l a us xs, .t c ws ys] _ O1 τ1 n1 ((q1.gcons (g := .t c ws ys) ⟨b1, b2⟩).gcons ⟨a1, a2⟩) ⟨_, _, GA.walk_zipM (by rw [zipD_len, a2.length]; omega) (by rw [zipD_len, b2.length]; omega), fun O M H g => ⟨SqL.of (g (.l a us xs) (by simp)).1.1, (g (.t c ws ys) (by simp)).1.1⟩, fun O M H i x H' g al hi y => ?_⟩ hq⟩⟩
            obtain ⟨T, x, z, rfl, y2, y3, y4, y5⟩ := y
            obtain ⟨d, e1, e2⟩ := (g (.l a us xs) (by simp)).2.get y4
            obtain ⟨f, f1, f2⟩ := (g (.t c ws ys) (by simp)).2.get y5
            obtain ⟨p1, p2⟩ := pair_dat al y2 y3 e2 f2
            exact ⟨p1, _, by simp [zipD, List.getElem?_zipWith, e1, f1], p2⟩
  · subst ed
    cases d1 with
    | cons h1 h2 =>
      cases h2 with
      | cons h2 h3 =>
        cases h3
        cases h1 with
        | @tup a us _ a1 a2 =>
          cases h2 with
          | @tup c ws _ b1 b2 =>
            refine ⟨a, c, us, ws, rfl, .inr ⟨a1.1, b1.1, k _ H1 [.t a us xs, .t c ws ys] _ O1 τ1 n1 ((q1.gcons (g := .t c ws ys) ⟨b1, b2⟩).gcons ⟨a1, a2⟩) ⟨_, _, BF.walk_zipT (by rw [zipD_len, a2.length, b2.length]), fun O M H g => ⟨(g (.t a us xs) (by simp)).1.1, (g (.t c ws ys) (by simp)).1.1⟩, fun O M H i x H' g al hi y => ?_⟩ hq⟩⟩
            obtain ⟨T, x, z, rfl, y2, y3, y4, y5⟩ := y
            obtain ⟨d, e1, e2⟩ := (g (.t a us xs) (by simp)).2.get y4
            obtain ⟨f, f1, f2⟩ := (g (.t c ws ys) (by simp)).2.get y5
            obtain ⟨p1, p2⟩ := pair_dat al y2 y3 e2 f2
            exact ⟨p1, _, by simp [zipD, List.getElem?_zipWith, e1, f1], p2⟩⟩
theorem y_zipM {τ : ST} {n : Int} {Q : List DV → ST → Int → Prop} (k : wr τ n fun ds τ1 n1 => ∃ xs ys, xs.length = ys.length ∧ (ds = [.lst xs, .tup ys] ∨ ds = [.tup xs, .tup ys]) ∧ Q (zipD xs ys) τ1 n1) : wZipM wr τ n Q := k
end
end VF
/-! ## A def called while an exception is handled, the exception frozen -/
namespace BF
open PySem PySem.Spec PyProof.Rows L2
structure RoomA (k : Nat) (A : Around) : Prop where
  dp : A.depth + 3 * k + 5 < recursionLimit
  un : A.units + 16 * k + 200 < cLine
/-- what a def promises, whatever is handled -/
structure FnA (P : Program) (w : World) (K : PySem.W.Frag) (mg : Str → Option Value) (base : Heap) (CX : CXT) (k : Nat) (f : Addr) (fd : FuncData) (ps : List Str) (sp : Sp) : Prop where
  len : ∀ vs H Q E, sp vs H Q E → vs.length = ps.length
  go : ∀ (A : Around) (outer : List Env) (s : Shared) (H : Hp) (us : List Value) (vs : List V) (Q : VK) (E : XK), RoomA k A → Env0 P w K mg base A outer s H → BindsTo s fd ⟨us, []⟩ (ps.zip us) → Vals vs us → sp vs H Q E →
    codeAny (model P w) A (.call (.ref f) ⟨us, []⟩) (CR CX outer P w H s Q E) s
def cxA (CX : CXT) (P : Program) (w : World) (K : PySem.W.Frag) (mg : Str → Option Value) (base : Heap) (N : List Str) (qual : Str) (scope : Scope) (f : Addr) (cd : Value) (A : Around) (outer : List Env) (s : Shared) (H : Hp) (E : XK) : Cx :=
  { cxOf CX P w K mg base N qual scope f cd A outer s H E with calm := false }
theorem inv_startA {CX : CXT} {P : Program} {w : World} {K : PySem.W.Frag} {mg : Str → Option Value} {base : Heap} {N ps : List Str} {qual : Str} {scope : Scope} {f : Addr} {cd : Value} {A : Around} {outer : List Env} {s s1 : Shared} {H : Hp} {E : XK} {us : List Value} {vs : List V}
    (S : FnScope N ps scope) (e0 : Env0 P w K mg base A outer s H) (hl : vs.length = ps.length) (r : Vals vs us)
    (x : InCallC s s.heap.objs.size (bindL (envOfC qual scope s.heap.objs.size f cd).kindOf (ps.zip us) fun _ => none) (cellsFrom (s.heap.objs.size + 1) scope.names []) (bindC (envOfC qual scope s.heap.objs.size f cd).kindOf (ps.zip us) fun _ => none) s1) :
    Inv (cxA CX P w K mg base N qual scope f cd A outer s H E) [] (L2.start N vs) H s1 := by
  have e1 : Env0 P w K mg base { A with handled := none } outer s H := ⟨e0.frames, e0.mod, e0.bs, e0.bsz, e0.funs, e0.frf, e0.hok, e0.bare⟩
  have I := inv_start (CX := CX) (cd := cd) (E := E) S (A := { A with handled := none }) rfl e1 hl r x
  exact ⟨⟨I.ok.mod, I.ok.kind, I.ok.glob, I.ok.blt, I.ok.above, I.ok.inj, I.ok.has, I.ok.cab, nofun, Around.frames_deeper e0.frames, I.ok.stk, I.ok.exf, I.ok.bs, I.ok.bsz, I.ok.noex, I.ok.exfs, I.ok.funs, I.ok.frf⟩, I.os, I.bare, I.base, I.loc, I.cell, I.free, I.freeC, I.pin, I.hok, I.len⟩
theorem fn_ofA {CX : CXT} {P : Program} {w : World} {K : PySem.W.Frag} {mg : Str → Option Value} {base : Heap} {x qual : Str} {params : Arguments} {body : List Stmt} {scope : Scope} {dvs : List V} {kws : List (Str × V)} {f : Addr} {fd : FuncData} {N ps : List Str} {k : Nat} {sp : Sp}
    (F : FunD K x qual params body scope dvs kws f fd) (S : FnScope N ps scope) (len : ∀ vs H Q E, sp vs H Q E → vs.length = ps.length)
    (hbody : ∀ (cdv : Value) (A : Around) (outer : List Env) (s : Shared) (H : Hp) (vs : List V) (Q : VK) (E : XK), RoomA (k + 1) A → sp vs H Q E → ∃ t, PSs (cxA CX P w K mg base N qual scope f cdv A outer s H E) body t ∧ t { nx := fun _ H' => Q .non H', rt := Q } (L2.start N vs) H) :
    FnA P w K mg base CX (k + 1) f fd ps sp := by
  obtain ⟨oc, od, dV, kV, doc, pm, an, cdv, ct, osl, rfl, lk, hcd, _, _⟩ := F.ex
  refine ⟨len, fun A outer s H us vs Q E hr e0 hb r hsp => ?_⟩
  have hl := len _ _ _ _ hsp
  have st : ∀ b o, base.get? b = some o → s.heap.get? b = some o := fun b o e => (e0.bs b o e).1
  have KX : K.In s.heap := e0.mod.kin.keeps st
  have hkind : ∀ y ∈ ps.zip us, scope.names.lookup y.1 = some .local ∨ (scope.names.lookup y.1 = some .cell ∧ ((cellsFrom (s.heap.objs.size + 1) scope.names []).lookup y.1).isSome = true) := by
    rintro ⟨n, v⟩ hy
    rcases S.par n (List.of_mem_zip hy).1 with q | q
    · exact .inl q
    · exact .inr ⟨q, PySem.W.cellsFrom_some _ _ _ (.inl q)⟩
  have hd : A.depth < recursionLimit := by have := hr.dp; omega
  refine codeAny_call_function hd (KX _ _ lk) rfl S.co S.gen rfl (PySem.W.codeRec_of KX hcd) (hb _ _ _ _ (wpAny_newFunctionEnv_cells S.kind hkind fun env he s1 x => ?_))
  subst he
  refine ⟨(e0.mod.nolimit.keeps st).keeps x.toInCall.keep, codeAny_func ?_⟩
  obtain ⟨t, ht, hq⟩ := hbody cdv A outer s H vs Q E hr hsp
  have I : Inv (cxA CX P w K mg base N qual scope f cdv A outer s H E) [] (L2.start N vs) H s1 := inv_startA S e0 hl r x
  refine wpAny_mono (ht.run [] s1 (L2.start N vs) H _ I hq) (fun fl s' hs => ?_) fun e s' hs => hs
  cases fl with
  | ret u =>
    obtain ⟨v, σ', H', J, rv, q⟩ := hs
    exact ⟨v, H', J.os, J.bare, J.base, J.hok, rv, q⟩
  | next =>
    obtain ⟨σ', H', J, q⟩ := hs
    exact ⟨.non, H', J.os, J.bare, J.base, J.hok, rfl, q⟩
  | brk => exact hs.elim fun _ h => h.elim fun _ h => False.elim h.2
  | cont => exact hs.elim fun _ h => h.elim fun _ h => False.elim h.2
section
variable {X : Cx} {pins : List (Addr × Obj)} {σ : L2.St} {H : Hp} {s : Shared} {k : Nat} {f : Addr} {fd : FuncData} {ps : List Str} {sp : Sp} {Q : VK}
theorem run_fnA {a : Addr} {oe : Obj} {u : HO} {us : List Value} {vs : List V} (F : FnA X.prog X.w X.K X.mg X.base CX0 k f fd ps sp) (hr : RoomA k X.A) (hb : Binds X.K fd ps []) (I : Inv X pins σ H s) (r : Vals vs us)
    (ha : s.heap.get? a = some oe) (hn : H a = none) (hbase : X.base.get? a = none) (hfr : a ∉ frs X.stack) (hu : ObjOk X.prog X.w (upd H a (.frz oe u)) s.heap a u)
    (h : sp vs (upd H a (.frz oe u)) (fun v H' => Q v (delA H' a)) C8.E0) : wpAny (model X.prog X.w) X.A (call (.ref f) us) (EP X pins σ Q) X.xe s := by
  have neN : ∀ {b : Addr} {o : HO}, H b = some o → b ≠ a := fun {b o} h1 z => by
    rw [z, hn] at h1
    cases h1
  have hok : HOk X.prog X.w (upd H a (.frz oe u)) s.heap := fun b o hb' => by
    by_cases z : b = a
    · subst z
      rw [upd_same] at hb'
      cases hb'
      exact ⟨ha, hu⟩
    · rw [upd_ne z] at hb'
      exact (I.hok b o hb').stay (fun c v hc y => y) (fun c hc => by rw [upd_ne (neN hc)]; exact hc) (fun c xs hc => by rw [upd_ne (neN hc)]; exact hc)
  have e0 := I.env0
  have E1 : Env0 X.prog X.w X.K X.mg X.base X.A X.stack s (upd H a (.frz oe u)) := ⟨e0.frames, e0.mod, fun b o hb' => ⟨(e0.bs b o hb').1, by
    rw [upd_ne (fun z => by rw [z, hbase] at hb'; cases hb')]
    exact (e0.bs b o hb').2⟩, e0.bsz, e0.funs, fun b hb' => by
    have z : b ≠ a := fun z => hfr (by rw [← z]; exact hb')
    rw [upd_ne z]
    exact e0.frf b hb', hok, e0.bare⟩
  have hl : us.length = ps.length := by rw [← r.length]; exact F.len _ _ _ _ h
  have hb0 := hb s us I.kIn (by simpa using hl)
  rw [List.append_nil] at hb0
  refine wpAny_call (codeAny_mono (F.go X.A X.stack s _ us vs _ C8.E0 hr E1 hb0 r h) fun r s' hq => ?_)
  cases r with
  | error e => exact (show False from hq).elim
  | ok fl =>
    cases fl with
    | ret w =>
      obtain ⟨v, H', os, bare, un, hok', rv, q⟩ := hq
      have hA : H' a = some (.frz oe u) := un.frzs a oe u upd_same
      have hA2 : s'.heap.get? a = some oe := (hok' a _ hA).1
      refine I.after ⟨v, delA H' a, os, bare, ⟨fun b o e n hf hx => ?_, fun b o e n hf hx => ?_, fun b o e n hx => ?_, un.there, fun b xs e => ?_, fun b o y e => ?_, fun b ps e => ?_⟩, fun b o e => ?_, rv, q⟩
      · by_cases z : b = a
        · rw [z] at e ⊢
          rw [ha] at e
          cases e
          exact hA2
        · exact un.keep b o e (by rw [upd_ne z]; exact n) hf hx
      · exact un.slot b o e (by
          have z : b ≠ a := fun z => hfr (by rw [← z]; exact hf)
          rw [upd_ne z]
          exact n) hf hx
      · by_cases z : b = a
        · rw [z]
          exact delA_same
        · rw [delA_ne z]
          exact un.free b o e (by rw [upd_ne z]; exact n) hx
      · rw [delA_ne (neN e)]
        exact un.tups b xs (by rw [upd_ne (neN e)]; exact e)
      · rw [delA_ne (neN e)]
        exact un.frzs b o y (by rw [upd_ne (neN e)]; exact e)
      · rw [delA_ne (neN e)]
        exact un.tbls b ps (by rw [upd_ne (neN e)]; exact e)
      · by_cases z : b = a
        · rw [z, delA_same] at e
          cases e
        · rw [delA_ne z] at e
          refine (hok' b o e).stay (fun c v hc y => y) (fun c hc => ?_) (fun c xs hc => ?_)
          · rw [delA_ne (fun z => by rw [z, hA] at hc; cases hc)]
            exact hc
          · rw [delA_ne (fun z => by rw [z, hA] at hc; cases hc)]
            exact hc
    | next => exact False.elim hq
    | brk => exact False.elim hq
    | cont => exact False.elim hq
end
section
variable {X : Cx} {a C : Addr} {oe : Obj} {d : Option Addr} {pn : List (Addr × Obj)} {e : Expr} {te : TE} {p pos : Pos} {x : Str} {k : Nat} {f : Addr} {fd : FuncData} {ps : List Str} {sp : Sp}
theorem pe_callA (hs : X.stack = X.env :: X.outer) (hf : X.env.frame = some X.env.locals) (hbase : X.base.get? a = none) (hz : Zc (.ref C) d oe) (hd : ∃ vs, oe.data = .fields vs)
    (F : FnA X.prog X.w X.K X.mg X.base CX0 k f fd ps sp) (hr : RoomA k X.A) (hg : Gl (X.suite a ((a, oe) :: pn)) x) (hm : X.mg x = some (.ref f)) (hk : PySem.W.keepIn X.K (.ref f) = true) (hb : Binds X.K fd ps [])
    (he : PE (X.suite a ((a, oe) :: pn)) e te) (hdb : (x == ("__debug__" : Str)) = false := by decide) (hst : starEach [e] X.env = (false, eval e X.env) :: starEach [] X.env := by rfl) (hpl : (backTo pos (starEach [] X.env)).any (·.1) = false := by rfl) :
    PE (X.suite a ((a, oe) :: pn)) (.Call (.Name x p) [e] [] pos) (tCallX a C d oe sp te) := by
  refine ⟨fun pins s σ H Q I h => ?_⟩
  refine wpAny_Call_Name_kw (ld_glob I hg hm ?_ hdb)
  have hx : wpAny (model X.prog X.w) (X.suite a ((a, oe) :: pn)).A _ _ _ s := (pa_weak (pa_cons he pa_nil hst)).run pos pins s σ H (fun vs H1 => vs = [.ref a] ∧ sp [.ref a] (upd H1 a (exF C d oe)) (fun v H' => Q v (delA H' a)) C8.E0) I
    ⟨fun vs H1 => match vs with
      | [x] => x = .ref a ∧ sp [.ref a] (upd H1 a (exF C d oe)) (fun v H' => Q v (delA H' a)) C8.E0
      | _ => False, h, fun vs H1 k => match vs, k with
      | [_], ⟨e, k⟩ => ⟨by rw [e], k⟩⟩
  refine PySem.W.callWith_K (h₀ := X.base) I.ok.mod.kin hk (thn hx fun us s1 ⟨vs, H1, I1, r, ev, q⟩ => ⟨I1.kIn, ?_⟩) hst hpl
  subst ev
  obtain ⟨g1, g2, g3, g4, _⟩ := I1.pin (a, oe) (List.mem_append_left _ List.mem_cons_self)
  refine run_fnA (X := X.suite a ((a, oe) :: pn)) (u := .ext fun _ => Zc (.ref C) d oe ∧ ∃ vs, oe.data = .fields vs) F ⟨hr.dp, hr.un⟩ hb I1 r g1 g2 hbase (fun z => ?_) ⟨⟨hz, hd⟩, ⟨oe, g1⟩, fun _ _ h _ => h⟩ q
  have z : a ∈ frs X.stack := z
  rw [hs] at z
  obtain ⟨e', m, k'⟩ := List.mem_filterMap.mp z
  rcases List.mem_cons.mp m with rfl | m
  · rw [hf] at k'
    exact g3 (Option.some.inj k').symm
  · exact g4 (List.mem_filterMap.mpr ⟨e', m, k'⟩)
end
end BF
/-! ## THE RULE by data for a def that makes lambdas: its code object is told -/
namespace BF
open PySem PySem.Spec PyProof.Rows L2 VF
theorem v_okL {P : Program} {w : World} {K : PySem.W.Frag} {mg : Str → Option Value} {base : Heap} {x qual : Str} {params : Arguments} {body : List Stmt} {scope : Scope} {dvs : List V} {kws : List (Str × V)} {p : He.Defn} {fd : FuncData} {N ps : List Str} {k : Nat} {C : Cf → Prop} {sp : DSp}
    (F : FunD K x qual params body scope dvs kws (He.fAd K p) fd) (S : FnScope N ps scope) (hN : N.length < 1000000) (hp : ps.length ≤ N.length) (hlen : ∀ ds n Q E, sp ds n Q E → ds.length = ps.length)
    (hbody : ∀ (A : Around) (outer : List Env) (s : Shared) (H : Hp) (W : Wc) (ds : List VF.DV) (n : Int) (Q' : VF.DV → Int → Prop), C W.toCf → ELink K W → Room k (A.deeper (envOfC qual scope s.heap.objs.size (He.fAd K p) (.ref (He.cT K p).1))) → sp ds n Q' W.E' →
      ∃ wd, PSs (cxOf (L2.CX P w) P w K mg base N qual scope (He.fAd K p) (.ref (He.cT K p).1) A outer s H W.E) body (liftS K W wd) ∧ wd { nx := fun _ n => Q' .non n, rt := Q' } (startT N ds) n) : FnOk P w K mg base (L2.CX P w) (k + 1) (He.fAd K p) fd ps (liftSp K C sp) := by
  obtain ⟨oc, od, dV, kV, doc, pm, an, cdv, ct, osl, rfl, lk, hcd, _, _⟩ := F.ex
  obtain ⟨c, rfl⟩ := He.codeIn_ref hcd
  have e : He.codeOf K p = c := He.codeOf_eq lk rfl
  refine fn_of lk hcd S (fun vs H Q E h => ?_) fun A outer s H vs Q E hr h => ?_
  · obtain ⟨W, ds, n, Q', hC, hWE, hE, hsp, hl, fin⟩ := v_body hN hp hlen h
    exact hl
  · obtain ⟨W, ds, n, Q', hC, hWE, hE, hsp, hl, fin⟩ := v_body hN hp hlen h
    subst hWE
    have hb := hbody A outer s H W ds n Q'
    rw [show (He.cT K p).1 = c from e] at hb
    obtain ⟨wd, h1, h2⟩ := hb hC hE hr hsp
    exact ⟨_, h1, fin wd h2⟩
theorem fn_okL {P : Program} {w : World} {K : PySem.W.Frag} {mg : Str → Option Value} {base : Heap} {CX : CXT} {x qual : Str} {params : Arguments} {body : List Stmt} {scope : Scope} {dvs : List V} {kws : List (Str × V)} {p : He.Defn} {fd : FuncData} {N ps : List Str} {k : Nat} {sp : Sp}
    (F : FunD K x qual params body scope dvs kws (He.fAd K p) fd) (S : FnScope N ps scope) (hlen : ∀ vs H Q E, sp vs H Q E → vs.length = ps.length)
    (hbody : ∀ (A : Around) (outer : List Env) (s : Shared) (H : Hp) (vs : List V) (Q : VK) (E : XK), Room k (A.deeper (envOfC qual scope s.heap.objs.size (He.fAd K p) (.ref (He.cT K p).1))) → sp vs H Q E →
      ∃ t, PSs (cxOf CX P w K mg base N qual scope (He.fAd K p) (.ref (He.cT K p).1) A outer s H E) body t ∧ t { nx := fun _ H' => Q .non H', rt := Q } (L2.start N vs) H) : FnOk P w K mg base CX (k + 1) (He.fAd K p) fd ps sp := by
  obtain ⟨oc, od, dV, kV, doc, pm, an, cdv, ct, osl, rfl, lk, hcd, _, _⟩ := F.ex
  obtain ⟨c, rfl⟩ := He.codeIn_ref hcd
  have e : He.codeOf K p = c := He.codeOf_eq lk rfl
  refine fn_of lk hcd S hlen fun A outer s H vs Q E hr h => ?_
  have hb := hbody A outer s H vs Q E
  rw [show (He.cT K p).1 = c from e] at hb
  exact hb hr h
/-- a run by data that begins in the midst of a def: nothing is raised -/
abbrev midW (C : Cf) (M : List Addr) (H0 : Hp) (hb : C.b ∈ M) : Wc := ⟨C, [C.b], M, H0, hb, List.mem_singleton.mpr rfl, fun _ _ _ _ => False, C8.E0⟩
theorem pss_mid {X : Cx} {st : List Stmt} {K : PySem.W.Frag} {Cs : Cf → Prop} {wd : ∀ (C : Cf) (M : List Addr) (H0 : Hp) (hb : C.b ∈ M), WS} (h : ∀ (C : Cf) (M : List Addr) (H0 : Hp) (hb : C.b ∈ M), Cs C → ELink K (midW C M H0 hb) → PSs X st (liftS K (midW C M H0 hb) (wd C M H0 hb))) :
    PSs X st (fun D σ H => ∃ (C : Cf) (M : List Addr) (H0 : Hp) (hb : C.b ∈ M), Cs C ∧ liftS K (midW C M H0 hb) (wd C M H0 hb) D σ H) :=
  ⟨fun pins s σ H D I ⟨C, M, H0, hb, hC, q⟩ => (h C M H0 hb hC fun _ _ _ _ _ _ _ _ _ _ _ _ _ _ z => z.elim).run pins s σ H D I q⟩
end BF
/-! ## for within a generator def -/
namespace L2
open PySem PySem.Spec PyProof.Rows GenW
section
variable {M : Model} {A : Around} {R : GenEnd} {Y : Protocol} {n : Nat} {s₀ : Shared} {c : Code} {fs : List Frame} {s : Shared} {env : Env} {K : Flow → Sem PySem.Fin} {J : Value → Sem PySem.Fin} {gd : Bool → Bool} {lv : List Value → List Value}
theorem seg_For {target iter : Expr} {body orelse : List Stmt} {pos : Pos} (hs : ∀ x, foldedSetIterable iter env x = pure x)
    (h : wpAny M (A.over c fs) (eval iter env) (fun x s₁ => wpAny M (A.over c fs) (pyIter x) (fun it s₂ => ∀ p, Seg M A R Y n s₀ (.forLoop target it body orelse env) (M.den (.forLoop target it body orelse env))
        (.ret (fun r => ((match r with | .ok f => (.pure f : Sem Flow) | .error e => .raise e).onRaise (cameBack env)).wrap K J gd lv) none (gd false) (lv []) c p [] :: fs) s₂) (fun x s' => Seg M A R Y n s₀ c (J x) fs s') s₁) (fun x s' => Seg M A R Y n s₀ c (J x) fs s') s) :
    Seg M A R Y n s₀ c ((exec (.For target iter body orelse pos) env).wrap K J gd lv) fs s := by
  rw [exec_For]
  refine seg_bind_wrap (wpAny_standAt ?_)
  refine seg_bind_wrap (wpAny_mono h (fun x s₁ h₁ => ?_) fun _ _ h' => h')
  refine seg_bind_wrap (wpAny_of_eq (hs x) ?_)
  refine seg_bind_wrap (wpAny_standAt ?_)
  refine seg_bind_wrap (wpAny_holding (wpAny_mono h₁ (fun it s₂ h₂ => ?_) fun _ _ h' => h'))
  exact seg_call h₂
end
/-- what a loop's turn does with an exception -/
abbrev noted (env : Env) (x : Value) : Sem PySem.Fin := (do noteFrame x env; theTreesLotGoes x : Sem Unit).wrap (fun _ => .raise x) .raise id id
section
variable {prog : Program} {w : World} {A : Around} {R : GenEnd} {Y : Protocol} {n : Nat} {s₀ : Shared} {fs : List Frame} {s : Shared} {env : Env}
theorem seg_forLoop {target : Expr} {it : Value} {body : List Stmt}
    (h : wpAny (model prog w) (A.over (.forLoop target it body [] env) fs) (pyNext it) (fun r s₁ => match r with
        | none => Seg (model prog w) A R Y n s₀ (.forLoop target it body [] env) (.pure (.again (.block [] env))) fs s₁
        | some v => wpAny (model prog w) (A.over (.forLoop target it body [] env) fs) (letOwnedTupleGo target it v) (fun _ s₂ => wpAny (model prog w) (A.over (.forLoop target it body [] env) fs) (assign target env v) (fun _ s₃ =>
            Seg (model prog w) A R Y n s₀ (.forLoop target it body [] env) ((execs body env).wrap (fun f => match f with
              | .next | .cont => .pure (.again (.forLoop target it body [] env))
              | .brk => .pure (.done .next)
              | .ret v => .pure (.done (.ret v))) (noted env) id id) fs s₃)
            (fun x s' => Seg (model prog w) A R Y n s₀ (.forLoop target it body [] env) (noted env x) fs s') s₂) (fun x s' => Seg (model prog w) A R Y n s₀ (.forLoop target it body [] env) (noted env x) fs s') s₁)
      (fun x s' => Seg (model prog w) A R Y n s₀ (.forLoop target it body [] env) (noted env x) fs s') s) :
    Seg (model prog w) A R Y n s₀ (.forLoop target it body [] env) ((model prog w).den (.forLoop target it body [] env)) fs s := by
  have hx : ∀ (x : Value) (s' : Shared), Seg (model prog w) A R Y n s₀ (.forLoop target it body [] env) (noted env x) fs s' →
      Seg (model prog w) A R Y n s₀ (.forLoop target it body [] env) (Sem.bind (do noteFrame x env; theTreesLotGoes x : Sem Unit) fun _ => (Sem.raise x : Sem PySem.Fin)) fs s' := fun x s' q => by
    rw [Sem.bind_eq_wrap]
    exact q
  show Seg _ A R Y n s₀ _ ((forTurn target it body [] env).onRaise (fun x => do noteFrame x env; theTreesLotGoes x)) fs s
  unfold forTurn
  rw [Sem.onRaise_eq_wrap]
  refine seg_bind_wrap (wpAny_standAt ?_)
  refine seg_bind_wrap (wpAny_onRaise (wpAny_mono h (fun r s₁ h₁ => ?_) fun x s' h' => wpAny_standAt (hx x s' h')))
  cases r with
  | none => exact h₁
  | some v =>
    refine seg_bind_wrap (wpAny_mono h₁ (fun _ s₂ h₂ => ?_) fun x s' h' => hx x s' h')
    refine seg_bind_wrap (wpAny_mono h₂ (fun _ s₃ h₃ => ?_) fun x s' h' => hx x s' h')
    rw [Sem.bind_eq_wrap', Sem.wrap_wrap]
    rw [Sem.wrap_congr (execs body env) _ _ (K' := fun f => match f with
          | .next | .cont => .pure (.again (.forLoop target it body [] env))
          | .brk => .pure (.done .next)
          | .ret v => .pure (.done (.ret v))) (H' := noted env)
      (fun f => by cases f <;> rfl)
      (fun e => by first | exact Sem.bind_eq_wrap _ _ | (show (do noteFrame e env; theTreesLotGoes e : Sem Unit).bind (fun _ => .raise e) = _; rw [Sem.bind_eq_wrap]))]
    exact h₃
end
section
variable {X : Cx} {tg : Expr}
/-- for, some of whose turns may hand out -/
def tGFor (wi : TI) (g : TG) (tb : TGn) : TGn := fun D ys σ H => wi σ H fun J H1 => ∃ W : Nat → Nat → List V → St → Hp → Prop, (∃ m, W 0 m ys σ H1) ∧ ∀ i m ys σ H, W i m ys σ H →
  (J.stop i H ∧ D.nx ys σ H) ∨ (J.go i H ∧ ∃ N : List V → St → Hp → Prop, (∀ ys' σ' H', N ys' σ' H' → ∃ m', m' < m ∧ W (i + 1) m' ys' σ' H') ∧ ∀ x H', J.yld i H x H' → g x σ H' fun σ2 H2 => tb { D with nx := N, ct := N, bk := D.nx } ys σ2 H2)
theorem FpOk.pins {pins pins' : List (Addr × Obj)} {H H' : Hp} {b : Addr} (h : FpOk X pins H b) (hp : pins'.map (·.1) = pins.map (·.1)) (hn : H' b = none) : FpOk X pins' H' b := by
  obtain ⟨_, h1, h2, h3, h4, h5⟩ := h
  refine ⟨hn, h1, h2, h3, h4, fun p hm => ?_⟩
  rcases List.mem_append.mp hm with hm | hm
  · exact h5 p (List.mem_append_left _ hm)
  · have : p.1 ∈ pins.map (·.1) := hp ▸ List.mem_map_of_mem hm
    obtain ⟨q, hq, e⟩ := List.mem_map.mp this
    rw [← e]
    exact h5 q (List.mem_append_right _ hq)
theorem gs_for {iter : Expr} {body : List Stmt} {wi : TI} {g : TG} {tb : TGn} {pos : Pos} (hp : PassesOwn (model X.prog X.w) X.A X.env X.xe) (hc : X.calm = true) (hi : PI X tg iter wi) (hg : PG X tg g) (hb : GSs X body tb)
    (hs : ∀ x, foldedSetIterable iter X.env x = pure x := by intro _; rfl) : GS X (.For tg iter body [] pos) (tGFor wi g tb) := by
  refine ⟨fun A S ip R n ys s₀ c fs K J gd lv s σ H D gc hn k hI ht => ?_⟩
  obtain ⟨acc0, cc0, r0, I⟩ := hI
  refine seg_For hs ?_
  rw [gc.over]
  refine wpAny_mono (hi.run _ s σ H _ I ht) (fun v s1 h1 => ?_) fun x s' hx => k.exc n s₀ x s' hx
  refine wpAny_mono h1 (fun itv s2 h2 p => ?_) fun x s' hx => k.exc n s₀ x s' hx
  obtain ⟨it, fp, tn, JJ, H2, e, I2, T, st2, f2, W, ⟨m0, w0⟩, turn⟩ := h2
  subst e
  have gl := fun (kk : Result → Sem PySem.Fin) => gc_loop (k := kk) (c' := .forLoop tg (.ref it) body [] X.env) (l := lv []) (kp := []) (p := p) gc rfl rfl
  have stat : ∀ {acc : Array Value} {cc : Nat} {H' : Hp}, (∀ b ∈ fp, H' b = none) → ∀ b ∈ fp, FpOk X ((S, lstObj acc cc) :: ip) H' b := fun hn b hb => (f2 b hb).pins rfl (hn b hb)
  have loop : ∀ (m i n : Nat) (ys : List V) (s₀ s : Shared) (σ : St) (H : Hp), n + ys.length = sizeLine → W i m ys σ H → GI X S ip ys σ H s → tn i s.heap → (∀ b ∈ fp, H b = none) →
      Seg (model X.prog X.w) A R (GY X S) n s₀ (.forLoop tg (.ref it) body [] X.env) ((model X.prog X.w).den (.forLoop tg (.ref it) body [] X.env))
        (.ret (fun r => ((match r with | .ok f => (.pure f : Sem Flow) | .error e => .raise e).onRaise (cameBack X.env)).wrap K J gd lv) none (gd false) (lv []) c p [] :: fs) s := by
    intro m
    induction m using Nat.strongRecOn with
    | ind m ih =>
      intro i n ys s₀ s σ H hn w hI st fr
      have ee : ∀ (n : Nat) (s₀ : Shared) (x : Value) (s' : Shared), X.xe x s' → Seg (model X.prog X.w) A R (GY X S) n s₀ (.forLoop tg (.ref it) body [] X.env) (noted X.env x)
          (.ret (fun r => ((match r with | .ok f => (.pure f : Sem Flow) | .error e => .raise e).onRaise (cameBack X.env)).wrap K J gd lv) none (gd false) (lv []) c p [] :: fs) s' := fun n s₀ x s' hx => by
        refine seg_wrap ?_
        rw [(gl _).over]
        refine wpAny_bind (wpAny_mono (hp x s' hx) (fun _ s'' hcb => wpAny_theTreesLotGoes ?_) fun y s'' hcb => ?_)
        · exact seg_leaf (.error x) (seg_cameBack gc k hcb)
        · exact seg_leaf (.error y) (seg_cameBack gc k hcb)
      refine seg_forLoop ?_
      rw [(gl _).over]
      obtain ⟨acc, cc, r, I⟩ := hI
      rcases turn i m ys σ H w with ⟨stop, qn⟩ | ⟨go, N, hN, step⟩
      · refine wpAny_mono (T.done X rfl rfl rfl hc i _ s σ H X.xe I (stat fr) st stop) (fun r1 s4 ⟨hr, I4⟩ => ?_) fun x s' hx => ee n s₀ x s' hx
        subst hr
        exact seg_again rfl (seg_leaf (.ok .next) (k.ok n ys s₀ s4 .next hn ⟨σ, H, ⟨acc, cc, r, I4⟩, qn⟩))
      · refine wpAny_mono (T.item X rfl rfl rfl hc i _ s σ H X.xe I (stat fr) st go) (fun r1 s4 ⟨u, hr, h4⟩ => ?_) fun x s' hx => ee n s₀ x s' hx
        subst hr
        refine wpAny_mono h4 (fun _ s5 ⟨x, H5, I5, r5, y5, st5, fr5⟩ => ?_) fun x s' hx => ee n s₀ x s' hx
        have I5' := I5.pinned (stat fr5) (T.obj _ _ st5)
        refine wpAny_mono (hg.run _ s5 σ H5 x u _ I5' r5 (step x H5 y5)) (fun _ s6 ⟨σ6, H6, I6, q6⟩ => ?_) fun x s' hx => ee n s₀ x s' hx
        have hip : ∀ q ∈ ip ++ pinsAt fp s5.heap, q.1 ≠ S := fun q hq => by
          rcases List.mem_append.mp hq with hq | hq
          · exact gc.ip q hq
          · exact Ne.symm ((f2 q.1 (of_pinsAt hq).1).2.2.2.2.2 (S, lstObj acc0 cc0) (List.mem_append_right _ List.mem_cons_self))
        have gb : GC X S (ip ++ pinsAt fp s5.heap) A (.forLoop tg (.ref it) body [] X.env) (.ret (fun r => ((match r with | .ok f => (.pure f : Sem Flow) | .error e => .raise e).onRaise (cameBack X.env)).wrap K J gd lv) none (gd false) (lv []) c p [] :: fs) id :=
          ⟨gc.pn, hip, gc.apart, (gl _).over, (gl _).split, (gl _).guard, rfl⟩
        have back : ∀ {ys' : List V} {σ7 : St} {H7 : Hp} {s7 : Shared}, GI X S (ip ++ pinsAt fp s5.heap) ys' σ7 H7 s7 → GI X S ip ys' σ7 H7 s7 ∧ tn (i + 1) s7.heap ∧ ∀ b ∈ fp, H7 b = none := fun {ys' σ7 H7 s7} ⟨acc', cc', r', I7⟩ => by
          have I7' : Inv X (((S, lstObj acc' cc') :: ip) ++ pinsAt fp s5.heap) σ7 H7 s7 := I7
          refine ⟨⟨acc', cc', r', I7'.unpinned⟩, T.keep _ _ _ st5 fun b hb o e => (I7'.pin (b, o) (List.mem_append_right _ (List.mem_append_right _ (mem_pinsAt hb e)))).1, fun b hb => ?_⟩
          obtain ⟨o, e, d⟩ := T.obj _ _ st5 b hb
          exact (I7'.pin (b, o) (List.mem_append_right _ (List.mem_append_right _ (mem_pinsAt hb e)))).2.1
        refine hb.run A S (ip ++ pinsAt fp s5.heap) R n ys s₀ _ _ _ _ id id s6 σ6 H6 { D with nx := N, ct := N, bk := D.nx } gb hn ⟨fun n' ys' s₀' s3 f hn' hs3 => ?_, fun n' s₀' x s3 hx => ee n' s₀' x s3 hx⟩ ⟨acc, cc, r, I6⟩ q6
        cases f with
        | next =>
          obtain ⟨σ3, H3, I3, n3⟩ := hs3
          obtain ⟨m', hm, w3⟩ := hN ys' σ3 H3 n3
          obtain ⟨b1, b2, b3⟩ := back I3
          exact seg_again rfl (ih m' hm (i + 1) n' ys' s₀' s3 σ3 H3 hn' w3 b1 b2 b3)
        | cont =>
          obtain ⟨σ3, H3, I3, n3⟩ := hs3
          obtain ⟨m', hm, w3⟩ := hN ys' σ3 H3 n3
          obtain ⟨b1, b2, b3⟩ := back I3
          exact seg_again rfl (ih m' hm (i + 1) n' ys' s₀' s3 σ3 H3 hn' w3 b1 b2 b3)
        | brk =>
          obtain ⟨σ3, H3, I3, n3⟩ := hs3
          exact seg_leaf (.ok .next) (k.ok n' ys' s₀' s3 .next hn' ⟨σ3, H3, (back I3).1, n3⟩)
        | ret v =>
          obtain ⟨x3, σ3, H3, I3, r3, n3⟩ := hs3
          exact seg_leaf (.ok (.ret v)) (k.ok n' ys' s₀' s3 (.ret v) hn' ⟨x3, σ3, H3, (back I3).1, r3, n3⟩)
  obtain ⟨acc, cc, r, I2'⟩ : ∃ acc cc, Vals ys acc.toList ∧ Inv X ((S, lstObj acc cc) :: ip) σ H2 s2 := ⟨acc0, cc0, r0, I2⟩
  exact loop m0 0 n ys s₀ s2 σ H2 hn w0 ⟨acc, cc, r, I2'⟩ st2 fun b hb => (f2 b hb).1
end
end L2
/-! ## a lambda with one parameter that has a default, handed to a def that calls it bare -/
namespace LamD
open PySem PySem.Spec PyProof.Rows L2 LamX
abbrev kld_fn (name qual : Str) (params : Arguments) (body : Expr) (scope : Scope) (cl : List (Str × Addr)) (pm cdv ct dV : Value) : FuncData := { PySem.W.kla_fn name qual params body scope cl pm cdv ct with defaults := dV }
abbrev kld_obj (name qual : Str) (params : Arguments) (body : Expr) (scope : Scope) (clos : List (Str × Addr)) (pm : Value) (c' : Addr) (ctv dV : Value) : Obj := { cls := .type "function", data := .func (kld_fn name qual params body scope clos pm (.ref c') ctv dV) }
section
open PySem.W
variable {M : Model} {A : Around} {E : Value → Shared → Prop} {s : Shared} {name qual : Str} {params : Arguments} {body : Expr} {scope : Scope} {env : Env} {c P : Addr} {ps : Array Value} {pos : Pos} {firstLine : Nat} {mg : Str → Option Value}
  {clos : List (Str × Addr)} {Q : Value → Shared → Prop}
theorem kld_makeTail {dV : Value} (hcl : closureFor scope env = pure clos) (hge0 : env.globals = mainGlobals) (hg : s.heap.Ns mainGlobals mg) (hcode : env.code = .ref c) (C : CodeHd s.heap c P) (hP : s.heap.get? P = some (tabObj ps)) (ht : TriplesOk ps.toList)
    (hnf : codeAmong pos ps.toList = none) (hgP : mainGlobals ≠ P) (hb : s.heap.BuiltinsAt mg P)
    (h : ∀ c' ctv h' tk, Heap.ExtBut P s.heap h' → s.heap.objs.size ≤ c' → c' < h'.objs.size → h'.CodeRec (.ref c') qual → h'.get? P = some (tabObj (ps ++ #[rawInt pos.line, rawInt pos.col, .ref c'])) →
      Q (.ref h'.objs.size) { s with heap := h'.push (kld_obj name qual params body scope clos ((mg "__name__").getD .none) c' ctv dV), toks := tk }) :
    wpAny M A (makeTail name qual params (.expr body) scope env dV .none none pos firstLine) Q E s := by
  obtain ⟨bm, ob, hbm, hne0, _, hneP, hbo, hcls, hdict, hdata⟩ := hb
  unfold makeTail
  rw [hcl, hge0]
  refine wpAny_bind (wpAny_pure ?_)
  cases clos with
  | nil =>
    simp only [List.isEmpty_nil, if_true]
    refine wpAny_bind (wpAny_pure ?_)
    refine wpAny_bind (wpAny_functionCodeX hcode (C.code hP ht) (C.tab hP) hnf fun c' h' tk hx hge hlt _ hrec htb _ => ?_)
    have hg' := hg.extBut hx hgP
    refine wpAny_bind (wpAny_builtinsFor hg' hbm hne0 (hx _ _ hneP hbo) hcls hdict hdata ?_)
    refine wpAny_bind (wpAny_nsGet hg' ?_)
    exact wpAny_bind (wpAny_pure (wpAny_newObj_type (h c' .none h' tk hx hge hlt hrec htb.2) (by size_fits)))
  | cons q r =>
    simp only [List.isEmpty_cons, Bool.false_eq_true, if_false]
    refine wpAny_bind (wpAny_newTextTuple ?_)
    refine wpAny_bind (wpAny_functionCodeX hcode ((C.keeps fun b o e => Heap.get?_push_of_some _ e).code (Heap.get?_push_of_some _ hP) ht) ((C.keeps fun b o e => Heap.get?_push_of_some _ e).tab (Heap.get?_push_of_some _ hP)) hnf fun c' h' tk hx hge hlt _ hrec htb _ => ?_)
    have hg' := (hg.push _).extBut hx hgP
    have hx' : Heap.ExtBut P s.heap h' := fun b o hb' e => hx b o hb' (Heap.get?_push_of_some _ e)
    have hge' : s.heap.objs.size ≤ c' := Nat.le_trans (by rw [Heap.size_push]; omega) hge
    refine wpAny_bind (wpAny_builtinsFor hg' hbm hne0 (hx' _ _ hneP hbo) hcls hdict hdata ?_)
    refine wpAny_bind (wpAny_nsGet hg' ?_)
    exact wpAny_bind (wpAny_pure (wpAny_newObj_type (h c' _ h' tk hx' hge' hlt hrec htb.2) (by size_fits)))
theorem kld_makeTailHit {cv dV : Value} (hcl : closureFor scope env = pure clos) (hge0 : env.globals = mainGlobals) (hg : s.heap.Ns mainGlobals mg) (hcode : env.code = .ref c) (C : CodeHd s.heap c P) (hP : s.heap.get? P = some (tabObj ps)) (ht : TriplesOk ps.toList)
    (hf : codeAmong pos ps.toList = some cv) (hb : s.heap.BuiltinsAt mg P)
    (h : ∀ (ctv : Value) (h' : Heap) (tk : Tok), (∀ b o, s.heap.get? b = some o → h'.get? b = some o) → s.heap.objs.size ≤ h'.objs.size →
      Q (.ref h'.objs.size) { s with heap := h'.push { cls := .type "function", data := .func (kld_fn name qual params body scope clos ((mg "__name__").getD .none) cv ctv dV) }, toks := tk }) :
    wpAny M A (makeTail name qual params (.expr body) scope env dV .none none pos firstLine) Q E s := by
  obtain ⟨bm, ob, hbm, hne0, _, hneP, hbo, hcls, hdict, hdata⟩ := hb
  unfold makeTail
  rw [hcl, hge0]
  refine wpAny_bind (wpAny_pure ?_)
  cases clos with
  | nil =>
    simp only [List.isEmpty_nil, if_true]
    refine wpAny_bind (wpAny_pure ?_)
    refine wpAny_bind (wpAny_functionCode_hit hcode (C.code hP ht) hf ?_)
    refine wpAny_bind (wpAny_builtinsFor hg hbm hne0 hbo hcls hdict hdata ?_)
    refine wpAny_bind (wpAny_nsGet hg ?_)
    exact wpAny_bind (wpAny_pure (wpAny_newObj_type (h .none s.heap s.toks (fun _ _ e => e) (Nat.le_refl _)) (by size_fits)))
  | cons q r =>
    simp only [List.isEmpty_cons, Bool.false_eq_true, if_false]
    refine wpAny_bind (wpAny_newTextTuple ?_)
    refine wpAny_bind (wpAny_functionCode_hit hcode ((C.keeps fun b o e => Heap.get?_push_of_some _ e).code (Heap.get?_push_of_some _ hP) ht) hf ?_)
    refine wpAny_bind (wpAny_builtinsFor (hg.push _) hbm hne0 (Heap.get?_push_of_some _ hbo) hcls hdict hdata ?_)
    refine wpAny_bind (wpAny_nsGet (hg.push _) ?_)
    have hsz : ∀ oT : Obj, s.heap.objs.size ≤ (s.heap.push oT).objs.size := fun oT => by rw [Heap.size_push]; omega
    exact wpAny_bind (wpAny_pure (wpAny_newObj_type (h _ _ s.toks (fun b o e => Heap.get?_push_of_some _ e) (hsz _)) (by size_fits)))
/-- the tuple of the default -/
abbrev dfT (u : Value) : Obj := { cls := .type "tuple", data := .seq [u].toArray }
theorem kld_make {u : Value} (h : wpAny M A (makeTail name qual params (.expr body) scope env (.ref s.heap.objs.size) .none none pos firstLine) Q E { s with heap := s.heap.push (dfT u) }) :
    wpAny M A (makeFunction name qual params (.expr body) scope env [u] [] [] pos firstLine) Q E s := by
  rw [makeFunction_eq]
  simp only [List.zip_nil_right, List.filterMap_nil, List.isEmpty_nil, List.isEmpty_cons, Bool.false_eq_true, if_false, if_true, pure_bind]
  exact wpAny_bind (wpAny_newTextTuple h)
theorem kld_eval {e0 : Expr} (hdef : defaultsOf params env = ([eval e0 env], [])) (h : wpAny M A (eval e0 env) (fun u s' => wpAny M A (makeFunction "<lambda>" (env.qual ++ "<lambda>") params (.expr body) scope env [u] [] [] pos pos.line) Q E s') E s) :
    wpAny M A (eval (.Lambda params body scope pos) env) Q E s := by
  rw [arm_eval_Lambda, hdef]
  show wpAny M A (do let dv ← evalAll [eval e0 env]; let kdv ← holding dv (evalAllOpt []); makeFunction "<lambda>" (env.qual ++ "<lambda>") params (.expr body) scope env dv kdv [] pos pos.line) Q E s
  refine wpAny_bind ?_
  show wpAny M A (eval e0 env >>= fun v => holding [v] (evalAll []) >>= fun r => pure (v :: r)) _ E s
  refine wpAny_bind (wpAny_mono h (fun u s' h' => ?_) fun _ _ x => x)
  exact wpAny_bind (wpAny_holding (wpAny_pure (wpAny_pure (wpAny_bind (wpAny_holding (wpAny_pure h'))))))
end
section
variable {X : Cx} {pins : List (Addr × Obj)} {σ : L2.St} {H HZ : Hp} {s s1 : Shared}
/-- the lambda is made: its code object is new, or found in the table; the default stands in a tuple of its own -/
theorem lam_makeD {T : List (Addr × Str)} {c P : Addr} {params : Arguments} {body e0 : Expr} {scope : Scope} {pos : Pos} {d0 : V} {Q : Value → Shared → Prop} (I : Inv X pins σ H s) (TB : TabB X.base X.mg c P) (hcode : X.env.code = .ref c)
    (hm : (P, X.env.qual ++ "<lambda>") ∈ T) (hu : ∀ p ∈ T, p.1 = P → p.2 = X.env.qual ++ "<lambda>") (hT : Tabs T H) (hdef : defaultsOf params X.env = ([eval e0 X.env], [])) (he0 : PE X e0 (fun _ H Q => Q d0 H)) (hfree : ∀ y ∈ scope.names, y.2 = .free → ∃ c, X.env.cells.lookup y.1 = some c)
    (h : ∀ (f c' T0 : Addr) (u pm ctv : Value) (H1 : Hp) (s' : Shared), Inv X pins σ H1 s' → ExtN H H1 → Tabs T H1 → RelV d0 u →
      s'.heap.get? f = some (kld_obj "<lambda>" (X.env.qual ++ "<lambda>") params body scope (cloFrom X.env.cells scope.names []) pm c' ctv (.ref T0)) → H1 f = none → f ∉ frs X.stack → s'.heap.get? T0 = some (dfT u) → H1 T0 = none → T0 ∉ frs X.stack → H1 c' = some (CodeO c' (X.env.qual ++ "<lambda>")) → Q (.ref f) s') :
    wpAny (model X.prog X.w) X.A (eval (.Lambda params body scope pos) X.env) Q X.xe s := by
  refine kld_eval hdef (thn (he0.run pins s σ H (fun v H1 => v = d0 ∧ H1 = H) I ⟨rfl, rfl⟩) fun u s1 ⟨v, H1, I1, r1, ev, eH⟩ => ?_)
  subst ev
  rw [eH] at I1
  clear eH I
  obtain ⟨ps, hP, ht, ha⟩ := hT _ hm
  refine kld_make ?_
  have nofr : ∀ f, s1.heap.objs.size ≤ f → f ∉ frs X.stack := fun f hf z => by
    rcases List.mem_cons.mp (I1.stkSub _ z) with e | e
    · have h1 := I1.lt
      rw [← e] at h1
      exact Nat.lt_irrefl _ (Nat.lt_of_lt_of_le h1 hf)
    · exact I1.nofs hf e
  have nT0 : H s1.heap.objs.size = none := I1.hok.fresh (Nat.le_refl _)
  have fT0 := nofr _ (Nat.le_refl _)
  have gT0 : (s1.heap.push (dfT u)).get? s1.heap.objs.size = some (dfT u) := Heap.get?_push_size _ rfl
  have zp : (s1.heap.push (dfT u)).objs.size = s1.heap.objs.size + 1 := Heap.size_push ..
  have I2 : Inv X pins σ H { s1 with heap := s1.heap.push (dfT u) } := I1.kept (t' := s1.toks) fun b o e => Heap.get?_push_of_some _ e
  have T0lt : s1.heap.objs.size < (s1.heap.push (dfT u)).objs.size := by rw [zp]; exact Nat.lt_succ_self _
  have nofr2 : ∀ f, (s1.heap.push (dfT u)).objs.size ≤ f → f ∉ frs X.stack := fun f hf => nofr f (Nat.le_trans (Nat.le_of_lt T0lt) hf)
  generalize hT0 : s1.heap.objs.size = T0 at *
  generalize hh2 : s1.heap.push (dfT u) = h2 at *
  have bP : h2.BuiltinsAt X.mg P := TB.bm.keeps I2.bk
  have hP' : h2.get? P = some { cls := .none, data := .fields ps } := I2.hok P _ hP
  have neTP : T0 ≠ P := fun z => by
    rw [z] at nT0
    rw [nT0] at hP
    cases hP
  cases hc : codeAmong pos ps.toList with
  | none =>
    refine kld_makeTail (s := { s1 with heap := h2 }) (mg := X.mg) (c := c) (P := P) (ps := ps) (closure_ok hfree) I2.ok.glob (I2.mod.glob.keeps I2.bk) hcode (TB.code.keeps I2.bk) hP' ht hc TB.gP bP fun c' ctv h' tk hx hge hlt hrec htb => ?_
    obtain ⟨c2, oc, vs, t, e2, hoc, hd, hv⟩ := hrec
    cases e2
    have hsz : h2.objs.size ≤ h'.objs.size := Nat.le_trans hge (Nat.le_of_lt hlt)
    have nC : H c' = none := I2.hok.fresh hge
    have I3 := inv_table (t' := tk) (more := #[rawInt pos.line, rawInt pos.col, .ref c']) (h' := h'.push (kld_obj "<lambda>" (X.env.qual ++ "<lambda>") params body scope (cloFrom X.env.cells scope.names []) ((X.mg "__name__").getD .none) c' ctv (.ref T0))) I2 hP
      (fun b o hb e => Heap.get?_push_of_some _ (hx b o hb e)) (Heap.get?_push_of_some _ htb) hge ⟨oc, vs, t, Heap.get?_push_of_some _ hoc, hd, hv⟩
    have hE : ExtN H (upd (upd H P (.tbl (ps ++ #[rawInt pos.line, rawInt pos.col, .ref c']))) c' (CodeO c' (X.env.qual ++ "<lambda>"))) := fun b o e n => by
      rw [upd_ne (ne_of_none e nC), upd_ne (fun z => n ps (Option.some.inj (e.symm.trans (by rw [z]; exact hP))))]
      exact e
    have eL : (ps ++ #[rawInt pos.line, rawInt pos.col, .ref c']).toList = ps.toList ++ [rawInt pos.line, rawInt pos.col, .ref c'] := by simp
    have neTc : T0 ≠ c' := Nat.ne_of_lt (Nat.lt_of_lt_of_le T0lt hge)
    refine h h'.objs.size c' T0 u ((X.mg "__name__").getD .none) ctv _ _ I3 hE (fun p hp => ?_) r1 (Heap.get?_push_size _ rfl) ?_ (nofr2 _ hsz) (Heap.get?_push_of_some _ (hx _ _ neTP gT0)) (by rw [upd_ne neTc, upd_ne neTP]; exact nT0) fT0 upd_same
    · by_cases hb : p.1 = P
      · rw [hu p hp hb, hb]
        refine ⟨_, by rw [upd_ne (ne_of_none hP nC), upd_same], by rw [eL]; exact PySem.TriplesOk_snoc _ _ _ _ ht, fun p' cv hcv => ?_⟩
        rw [eL] at hcv
        rcases among_app _ ht hcv with z | z
        · obtain ⟨c0, e1, e2⟩ := ha p' cv z
          exact ⟨c0, e1, hE _ _ e2 codeO_ne⟩
        · exact ⟨c', z, upd_same⟩
      · obtain ⟨ps', a1, a2, a3⟩ := hT p hp
        refine ⟨ps', by rw [upd_ne (ne_of_none a1 nC), upd_ne hb]; exact a1, a2, fun p' cv hcv => ?_⟩
        obtain ⟨c0, e1, e2⟩ := a3 p' cv hcv
        exact ⟨c0, e1, hE _ _ e2 codeO_ne⟩
    · have n1 : h'.objs.size ≠ c' := Nat.ne_of_gt hlt
      have n2 : h'.objs.size ≠ P := Nat.ne_of_gt (Nat.lt_of_lt_of_le (Heap.lt_size hP') hsz)
      rw [upd_ne n1, upd_ne n2]
      exact I2.hok.fresh hsz
  | some cv =>
    obtain ⟨c', e, hco⟩ := ha pos cv hc
    subst e
    refine kld_makeTailHit (s := { s1 with heap := h2 }) (mg := X.mg) (c := c) (P := P) (ps := ps) (closure_ok hfree) I2.ok.glob (I2.mod.glob.keeps I2.bk) hcode (TB.code.keeps I2.bk) hP' ht hc bP fun ctv h' tk hx hsz => ?_
    have I3 : Inv X pins σ H { s1 with heap := h'.push (kld_obj "<lambda>" (X.env.qual ++ "<lambda>") params body scope (cloFrom X.env.cells scope.names []) ((X.mg "__name__").getD .none) c' ctv (.ref T0)), toks := tk } := I2.kept fun b o e => Heap.get?_push_of_some _ (hx b o e)
    exact h h'.objs.size c' T0 u ((X.mg "__name__").getD .none) ctv H _ I3 (ExtN.refl H) hT r1 (Heap.get?_push_size _ rfl) (I2.hok.fresh hsz) (nofr2 _ hsz) (Heap.get?_push_of_some _ (hx _ _ gT0)) nT0 fT0 hco
end
end LamD
/-! ## such a lambda, called -/
namespace LamD
open PySem PySem.Spec PyProof.Rows L2 LamX
/-- one parameter x, no other name of its own: captured ones and globals -/
structure LamS1 (x : Str) (sc scope : Scope) : Prop where
  kind : scope.kind = .function
  co : scope.isCoroutine = false
  gen : scope.isGenerator = false
  own : ∀ y ∈ scope.names, (y.2 = .local → y.1 = x) ∧ y.2 ≠ .cell ∧ y.1 ≠ ""
  par : scope.names.lookup x = some .local
  free : ∀ y ∈ scope.names, y.2 = .free → sc.names.lookup y.1 = some .cell ∨ sc.names.lookup y.1 = some .free
def lamS1B (x : Str) (sc scope : Scope) : Bool :=
  decide (scope.kind = .function) && !scope.isCoroutine && !scope.isGenerator && decide (scope.names.lookup x = some .local) && scope.names.all fun y => (!decide (y.2 = .local) || decide (y.1 = x)) && !decide (y.2 = .cell) && !decide (y.1 = "") && (!decide (y.2 = .free) || decide (sc.names.lookup y.1 = some .cell) || decide (sc.names.lookup y.1 = some .free))
theorem lamS1_by {x : Str} {sc scope : Scope} (h : lamS1B x sc scope = true) : LamS1 x sc scope := by
  unfold lamS1B at h
  simp only [Bool.and_eq_true, Bool.or_eq_true, Bool.not_eq_true', decide_eq_true_eq, decide_eq_false_iff_not, List.all_eq_true] at h
  obtain ⟨⟨⟨⟨h1, h2⟩, h3⟩, h5⟩, h4⟩ := h
  refine ⟨h1, h2, h3, fun y hy => ⟨fun e => ?_, (h4 y hy).1.1.2, (h4 y hy).1.2⟩, h5, fun y hy e => ?_⟩
  · rcases (h4 y hy).1.1.1 with z | z
    · exact absurd e z
    · exact z
  · rcases (h4 y hy).2 with (z | z) | z
    · exact absurd e z
    · exact .inl z
    · exact .inr z
theorem LamS1.has {X : Cx} {x : Str} {scope : Scope} (L : LamS1 x X.env.scope scope) (ok : X.Ok) : ∀ y ∈ scope.names, y.2 = .free → ∃ c, X.env.cells.lookup y.1 = some c := fun y hy e => by
  rcases L.free y hy e with k | k
  · exact ok.has _ (.inl k)
  · exact ok.has _ (.inr k)
/-- the outer names, but the parameter's -/
def offN (x : Str) (N : List Str) : List Str := N.map fun y => if y = x then "" else y
def lamCxD (x : Str) (X : Cx) (A : Around) (outer : List Env) (s : Shared) (H : Hp) (E : XK) (scope : Scope) (f c' : Addr) : Cx := { lamCx X A outer s H E scope f c' with N := offN x X.N }
section
variable {X : Cx} {pins : List (Addr × Obj)} {σ : L2.St} {H HZ : Hp} {s s1 : Shared} {x : Str}
theorem lam_startD {A : Around} {outer : List Env} {E : XK} {scope : Scope} {f c' : Addr} {h₁ : Heap} {tk : Nat} {m : Str → Option Value} (I : Inv X pins σ H s) (L : LamS1 x X.env.scope scope) (e0 : Env0 X.prog X.w X.K X.mg X.base A outer s1 HZ) (hd : A.handled = none)
    (un : Un (frs X.stack) [] H HZ s.heap s1.heap) (hns : h₁.Ns s1.heap.objs.size m) (kp : ∀ b o, s1.heap.get? b = some o → h₁.get? b = some o) :
    Inv (lamCxD x X A outer s1 HZ E scope f c') [] σ HZ { s1 with heap := h₁, toks := tk } := by
  have hfree := L.has I.ok
  have cm : ∀ {y c}, (cloFrom X.env.cells scope.names []).lookup y = some c → X.env.cells.lookup y = some c := fun {y c} e => by
    rcases cloFrom_mem (PySem.mem_of_lookup e) with hm | ⟨h1, h2⟩
    · cases hm
    · obtain ⟨c1, hc⟩ := hfree _ h1 rfl
      have hc : X.env.cells.lookup y = some c1 := hc
      have e2 : c = c1 := by
        rw [h2, hc] <;> rfl
      rw [e2]
      exact hc
  have look : ∀ {y}, scope.names.lookup y = some .free → ∃ c, (cloFrom X.env.cells scope.names []).lookup y = some c := fun {y} hl => by
    have hy : (y, NameKind.free) ∈ scope.names := PySem.mem_of_lookup hl
    exact mem_lookup (cloFrom_has (cells := X.env.cells) (acc := []) hy)
  have cellK : ∀ {c : Addr} {v : Option Value}, H c = none → s.heap.IsCell c v → h₁.IsCell c v := fun {c v} n ⟨o, ho, hd⟩ => by
    obtain ⟨sl, q⟩ := un.any ho n (by simp)
    exact ⟨_, kp _ _ q, hd⟩
  have noA : ∀ b : Addr, b ∉ (lamCxD x X A outer s1 HZ E scope f c').ex := fun b z => absurd (show b ∈ ([] : List Addr) from z) (by simp)
  refine ⟨⟨e0.mod, L.kind, rfl, rfl, Nat.le_refl _, fun y z c e1 e2 => I.ok.inj y z c (cm e1) (cm e2), fun y hy => ?_, fun y c z _ => ?_, fun _ => hd, Around.frames_deeper e0.frames, .inr ⟨rfl, rfl⟩, fun b z => absurd z (noA b), e0.bs, e0.bsz, fun b _ _ => noA b,
      fun b z => absurd z (noA b), e0.funs, e0.frf⟩,
    rfl, e0.bare, Un.kept kp, ⟨_, hns, fun i y v e1 e2 e3 => ?_⟩, fun y c e => ?_, e0.hok.fresh (Nat.le_refl _), fun y c e => ?_, fun q hq => absurd (show q ∈ ([] : List (Addr × Obj)) ++ [] from hq) (by simp), e0.hok.kept kp, ?_⟩
  · have hy : scope.names.lookup y = some .cell ∨ scope.names.lookup y = some .free := hy
    rcases hy with hy | hy
    · exact absurd rfl (L.own _ (PySem.mem_of_lookup hy)).2.1
    · exact look hy
  · have z : false = true := z
    cases z
  · have e3 : Vis scope y := e3
    have e1 : (offN x X.N)[i]? = some y := e1
    unfold offN at e1
    rw [List.getElem?_map] at e1
    obtain ⟨y0, n0, ey⟩ := Option.map_eq_some_iff.mp e1
    by_cases hyx : y0 = x
    · rw [if_pos hyx] at ey
      rcases e3 with k | k | k <;> exact absurd ey.symm (L.own _ (PySem.mem_of_lookup k)).2.2
    · rw [if_neg hyx] at ey
      subst ey
      rcases e3 with k | k | k
      · exact absurd ((L.own _ (PySem.mem_of_lookup k)).1 rfl) hyx
      · exact absurd rfl (L.own _ (PySem.mem_of_lookup k)).2.1
      · obtain ⟨m, hn, hl⟩ := I.loc
        have hvis : Vis X.env.scope y0 := (L.free _ (PySem.mem_of_lookup k) rfl).elim (fun k => .inr (.inl k)) (fun k => .inr (.inr k))
        obtain ⟨w', r, q⟩ := hl i y0 v n0 e2 hvis
        obtain ⟨c2, h2⟩ := look k
        refine ⟨w', r, .inr ⟨.inr k, c2, h2, ?_⟩⟩
        have c1 := cm h2
        rcases q with ⟨k', _⟩ | ⟨_, c3, e', z⟩
        · have k' : X.env.scope.names.lookup y0 = some .local := k'
          rcases L.free _ (PySem.mem_of_lookup k) rfl with k2 | k2 <;> rw [show X.env.scope.names.lookup y0 = _ from k2] at k' <;> cases k'
        · rw [c1] at e'
          cases e'
          exact cellK (I.freeC y0 _ c1) z
  · obtain ⟨w', z⟩ := I.cell y c (cm e)
    exact ⟨w', cellK (I.freeC y c (cm e)) z⟩
  · obtain ⟨v, o, ho, hd⟩ := I.cell y c (cm e)
    exact un.free c o ho (I.freeC y c (cm e)) (by simp)
  · show σ.length = (offN x X.N).length
    unfold offN
    rw [List.length_map]
    exact I.len
/-- a(), in the def that got the lambda -/
theorem pe_actD {CXg : CXT} {Eg : XK} {Ng : List Str} {qg : Str} {sg : Scope} {g f c' T0 : Addr} {cdg pm ctv u0 : Value} {params : Arguments} {body : Expr} {scope : Scope} {k i : Nat} {a : Str} {pn : List (Addr × Obj)} {xe : Value → Shared → Prop} {W : WX} {E : XK} {tb : TE} {p1 p2 : Pos}
    (I : Inv X pins σ H s) (L : LamS1 x X.env.scope scope) (hf : s.heap.get? f = some (kld_obj "<lambda>" (X.env.qual ++ "<lambda>") params body scope (cloFrom X.env.cells scope.names []) pm c' ctv (.ref T0))) (hfn : H f = none) (hfr : f ∉ frs X.stack)
    (hT0 : s.heap.get? T0 = some (dfT u0)) (nT0 : H T0 = none) (fT0 : T0 ∉ frs X.stack)
    (hbind : ∃ k : Option (Array Value) → Sem (List (Str × Value)), bindArgs (kld_fn "<lambda>" (X.env.qual ++ "<lambda>") params body scope (cloFrom X.env.cells scope.names []) pm (.ref c') ctv (.ref T0)) ⟨[], []⟩ = seqItems? (.ref T0) >>= k ∧ ∀ u, k (some #[u]) = pure [(x, u)])
    (tk : Takes ((cxOf CXg X.prog X.w X.K X.mg X.base Ng qg sg g cdg X.A X.stack s H Eg).tr pn xe) W) (hW : ∀ cls d σ' H', E cls d H' → W cls d σ' H') (hr : Room (k + 1) (X.A.deeper (envOfC qg sg s.heap.objs.size g cdg)))
    (hbody : ∀ (A : Around) (outer : List Env) (s : Shared) (H : Hp), Room k (A.deeper (lamEnv X scope s.heap.objs.size f c')) → PE (lamCxD x X A outer s H E scope f c') body tb)
    (hN : Ng[i]? = some a) (hv : Vis sg a) (hd : (a == ("__debug__" : Str)) = false := by decide) (hcd : (a == ("__classdict__" : Str)) = false := by decide) :
    PE ((cxOf CXg X.prog X.w X.K X.mg X.base Ng qg sg g cdg X.A X.stack s H Eg).tr pn xe) (.Call (.Name a p1) [] [] p2)
      (fun σZ HZ Q => σZ[i]? = some (some (.ref f)) ∧ HZ c' = some (CodeO c' (X.env.qual ++ "<lambda>")) ∧ tb σ HZ Q) := by
  refine ⟨fun pinsZ sZ σZ HZ Q IZ h => ?_⟩
  obtain ⟨hs, hc, ht⟩ := h
  refine wpAny_Call_Name_kw (thn ((pe_var (pos := p1) (i := i) hN hv hd hcd).run pinsZ sZ σZ HZ (fun v H1 => v = .ref f ∧ H1 = HZ) IZ ⟨.ref f, hs, rfl, rfl⟩) fun u s1 ⟨v, H1, I1, r1, q1⟩ => ?_)
  obtain ⟨ev, eH⟩ := q1
  subst ev
  rw [eH] at I1
  obtain rfl : u = Value.ref f := r1
  have of1 : s1.heap.get? f = some (kld_obj "<lambda>" (X.env.qual ++ "<lambda>") params body scope (cloFrom X.env.cells scope.names []) pm c' ctv (.ref T0)) := I1.base.keep f _ hf hfn hfr (fun z => nomatch (show f ∈ ([] : List Addr) from z))
  have oT1 : s1.heap.get? T0 = some (dfT u0) := I1.base.keep T0 _ hT0 nT0 fT0 (fun z => nomatch (show T0 ∈ ([] : List Addr) from z))
  refine PySem.W.callWith_F0 ⟨_, _, _, _, of1⟩ ?_
  have un : Un (frs X.stack) [] H HZ s.heap s1.heap := I1.base
  obtain ⟨⟨oc, vs, t, hoc, hdc, hvc⟩, _, _⟩ := I1.hok c' _ hc
  obtain ⟨kk, hb1, hb2⟩ := hbind
  have rc : codeAny (model X.prog X.w) (X.A.deeper (envOfC qg sg s.heap.objs.size g cdg)) (.call (.ref f) ⟨[], []⟩) (CR (L2.CX X.prog X.w) (envOfC qg sg s.heap.objs.size g cdg :: X.stack) X.prog X.w HZ s1 Q E) s1 := by
    refine PySem.W.kla_callFunE hr.depth of1 rfl L.co L.gen rfl ⟨c', oc, vs, t, rfl, hoc, hdc, hvc⟩ ?_
    rw [hb1]
    refine wpAny_bind (wpAny_seqItems oT1 rfl ?_)
    show wpAny _ _ (kk (some #[u0])) _ _ _
    rw [hb2 u0]
    refine wpAny_pure (wpAny_newFunctionEnv (fun y hy => (L.own y hy).2.1) (fun y hy => by rw [List.mem_singleton.mp hy]; exact L.par) (fun h₁ hns hsb => ⟨I1.nolimit.fresh _ hsb, ?_⟩) L.kind)
    show codeAny _ _ (.expr body (lamEnv X scope s1.heap.objs.size f c')) _ _
    have kp : ∀ b o, s1.heap.get? b = some o → h₁.get? b = some o := fun b o e => hsb.extBut b o (Nat.ne_of_lt (Heap.lt_size e)) (Heap.get?_push_of_some _ e)
    have J : Inv (lamCxD x X (X.A.deeper (envOfC qg sg s.heap.objs.size g cdg)) (envOfC qg sg s.heap.objs.size g cdg :: X.stack) s1 HZ E scope f c') [] σ HZ { s1 with heap := h₁, toks := s1.toks + ([(x, u0)] : List (Str × Value)).length } :=
      lam_startD I L I1.env0 hr.hd un hns kp
    refine PySem.W.kla_codeExpr (wpAny_mono ((hbody _ _ s1 HZ (hr.deeper _)).run [] _ _ HZ Q J ht) (fun v s' hq => ?_) fun e s' hq => hq)
    obtain ⟨w', H', J', rv, q⟩ := hq
    exact ⟨w', H', J'.os, J'.bare, J'.base, J'.hok, rv, q⟩
  have hx : Passes (L2.CX X.prog X.w) ((cxOf CXg X.prog X.w X.K X.mg X.base Ng qg sg g cdg X.A X.stack s H Eg).tr pn xe) E := passes_call tk hW
  refine wpAny_call (codeAny_mono rc fun r s' hq => ?_)
  cases r with
  | error e => exact hx pinsZ σZ HZ s1 e s' I1 hq
  | ok fl =>
    cases fl with
    | ret u => exact I1.after hq
    | next => exact False.elim hq
    | brk => exact False.elim hq
    | cont => exact False.elim hq
end
section
variable {X : Cx}
/-- g(lambda x=e0: body) -/
theorem pe_lamcallD {T : List (Addr × Str)} {TT : (XK → Hp → VK → Prop) → Hp → VK → Prop} {xg a x : Str} {g c P : Addr} {k : Nat} {pg : Arguments} {bg : List Stmt} {sg : Scope} {dV kV doc pm cdv ct oc : Value} {an od : Option Addr} {osl : Array (Option Value)} {Ng : List Str}
    {params : Arguments} {body e0 : Expr} {scope : Scope} {t : XK → TE} {p lpos pos : Pos} {d0 : V} (hg : Gl X xg) (hm : X.mg xg = some (.ref g)) (hk : PySem.W.keepIn X.K (.ref g) = true)
    (lk : X.K.lookup g = some ⟨oc, od, .func (PySem.W.fnOf xg xg pg bg sg dV kV doc pm an cdv ct), osl⟩) (hcg : PySem.W.codeIn X.K cdv xg = true) (hb : L2.Binds X.K (PySem.W.fnOf xg xg pg bg sg dV kV doc pm an cdv ct) [a] []) (Sg : FnScope Ng [a] sg) (hNg : Ng[0]? = some a) (hva : Vis sg a)
    (hG : GivesTo X Ng xg sg g cdv bg a (X.env.qual ++ "<lambda>") TT)
    (TB : TabB X.base X.mg c P) (hcode : X.env.code = .ref c) (hmT : (P, X.env.qual ++ "<lambda>") ∈ T) (hu : ∀ p ∈ T, p.1 = P → p.2 = X.env.qual ++ "<lambda>") (hr : Room (k + 2) X.A) (L : LamS1 x X.env.scope scope) (hdef : defaultsOf params X.env = ([eval e0 X.env], [])) (he0 : PE X e0 (fun _ H Q => Q d0 H))
    (hbind : ∀ (q : Str) (cl : List (Str × Addr)) (pm cv ctv : Value) (T0 : Addr), ∃ k : Option (Array Value) → Sem (List (Str × Value)), bindArgs (kld_fn "<lambda>" q params body scope cl pm cv ctv (.ref T0)) ⟨[], []⟩ = seqItems? (.ref T0) >>= k ∧ ∀ u, k (some #[u]) = pure [(x, u)])
    (hbody : ∀ (A : Around) (outer : List Env) (s : Shared) (H : Hp) (E : XK) (f c' : Addr), Room k (A.deeper (lamEnv X scope s.heap.objs.size f c')) → PE (lamCxD x X A outer s H E scope f c') body (t E))
    (hdb : (xg == ("__debug__" : Str)) = false := by decide) (hd : (a == ("__debug__" : Str)) = false := by decide) (hcd : (a == ("__classdict__" : Str)) = false := by decide) :
    PE X (.Call (.Name xg p) [.Lambda params body scope lpos] [] pos) (tLam T TT t) := by
  refine ⟨fun pins s σ H Q I h => ?_⟩
  obtain ⟨hT, h⟩ := h
  refine wpAny_Call_Name_kw (ld_glob I hg hm ?_ hdb)
  refine PySem.W.callWith_K (h₀ := X.base) I.ok.mod.kin hk ?_ (by rfl) (by rfl)
  show wpAny _ _ (spliced ((false, eval (.Lambda params body scope lpos) X.env) :: backTo pos (starEach [] X.env))) _ _ s
  refine Calls.spliced_cons (lam_makeD I TB hcode hmT hu hT hdef he0 (L.has I.ok) fun f c' T0 u0 pm' ctv H1 s' I1 eN T1 r0 hf hfn hfr hT0 nT0 fT0 hco => ?_)
  refine Calls.spliced_nil ⟨I1.kIn, ?_⟩
  have rc : codeAny (model X.prog X.w) X.A (.call (.ref g) ⟨[.ref f], []⟩) (CR C8.CX0 X.stack X.prog X.w H1 s' Q C8.E0) s' := by
    refine run_ofS (N := Ng) (ps := [a]) (us := [.ref f]) (vs := [.ref f]) lk hcg Sg hr I1.env0 (hb s' [.ref f] I1.kIn rfl) (.cons rfl .nil) rfl fun hr' => ?_
    obtain ⟨t', ht', hq'⟩ := hG f c' s' H1 Q (fun E H' Q' => t E σ H' Q') (fun W pn xe E p1 p2 tk hW => pe_actD (i := 0) I1 L hf hfn hfr hT0 nT0 fT0 (hbind _ _ _ _ _ _) tk hW hr' (fun A outer s H hr2 => hbody A outer s H E f c' hr2) hNg hva hd hcd) hco (h H1 eN T1)
    exact ⟨t', ht'.nox, hq'⟩
  refine wpAny_call (codeAny_mono rc fun r s2 hq => ?_)
  cases r with
  | error e => exact (show False from hq).elim
  | ok fl =>
    cases fl with
    | ret u => exact I1.after hq
    | next => exact False.elim hq
    | brk => exact False.elim hq
    | cont => exact False.elim hq
end
end LamD
/-! ## a generator def called with keywords -/
namespace L2
open PySem PySem.Spec PyProof.Rows GenW
theorem FunD.okG {P : Program} {w : World} {K : PySem.W.Frag} {mg : Str → Option Value} {base : Heap} {x qual : Str} {params : Arguments} {body : List Stmt} {scope : Scope} {dvs : List V} {kws : List (Str × V)} {f : Addr} {fd : FuncData} {N ps : List Str} {k : Nat} {sp : SpG}
    (F : FunD K x qual params body scope dvs kws f fd) (S : GScope N ps scope) (len : ∀ vs H Q E, sp vs H Q E → vs.length = ps.length)
    (hbody : ∀ (cdv : Value) (A : Around) (outer : List Env) (s : Shared) (H : Hp) (vs : List V) (Q : List V → Hp → Prop) (E : XK) (pn : List (Addr × Obj)), Room k (A.deeper (envOfC qual scope s.heap.objs.size f cdv)) → sp vs H Q E →
      ∃ t, GSs (gcxOf P w K mg base N qual scope f cdv A outer s H E pn) body t ∧ t { nx := fun ys _ H' => Q ys H', rt := fun ys v H' => v = .non ∧ Q ys H' } [] (start N vs) H) :
    GFn P w K mg base (k + 1) f fd ps sp := by
  obtain ⟨oc, od, dV, kV, doc, pm, an, cdv, ct, osl, rfl, lk, hcd, _, _⟩ := F.ex
  exact gfn_of lk hcd S len fun A outer s H vs Q E pn hr hsp => hbody cdv A outer s H vs Q E pn hr hsp
def tCallGN (n m : Nat) (sp : SpG) (gV : List V → List V → List V) (E : XK) (t tk : TA) : TGen := fun σ H cont => t σ H fun vs H1 => tk σ H1 fun zs H2 => vs.length = n ∧ zs.length = m ∧ sp (gV vs zs) H2 cont E
section
variable {X : Cx} {k n : Nat} {f : Addr} {fd : FuncData} {ps ks : List Str} {sp : SpG} {E : XK} {x : Str} {p pos : Pos} {e : Expr} {es : List Expr} {kws : List Keyword} {t tk : TA} {g : List Value → List Value → List Value} {gV : List V → List V → List V}
/-- f(e, .., k = v, ..) of a generator def -/
theorem pgen_callN (F : GFn X.prog X.w X.K X.mg X.base k f fd ps sp) (hr : Room k X.A) (hg : Gl X x) (hm : X.mg x = some (.ref f)) (hk : PySem.W.keepIn X.K (.ref f) = true) (hb : KBn X.K fd ps n ks g gV)
    (ha : PA X (e :: es) t) (hkw : PK X kws tk) (hall : (backToKw pos (keywordEach kws X.env)).all (·.1.isSome) = true := by rfl) (hks : (backToKw pos (keywordEach kws X.env)).filterMap (·.1) = ks := by rfl)
    (hdb : (x == ("__debug__" : Str)) = false := by decide) (he : starEach (e :: es) X.env = (false, eval e X.env) :: starEach es X.env := by rfl)
    (hpl : ((backTo pos (starEach (e :: es) X.env)).any (·.1) || (backToKw pos (keywordEach kws X.env)).any (·.1.isNone)) = false := by rfl) :
    PGen X k (.Call (.Name x p) (e :: es) kws pos) (tCallGN n ks.length sp gV E t tk) E := by
  refine ⟨fun pins s σ H cont I h => ?_⟩
  refine wpAny_Call_Name_kw (ld_glob I hg hm ?_ hdb)
  refine PySem.W.callWith_KW (h₀ := X.base) I.ok.mod.kin hk hall (thn (ha.run pos pins s σ H _ I h) fun us s1 ⟨vs, H1, I1, r, q⟩ => ?_) hpl he
  refine thn (hkw.run pos pins s1 σ H1 _ I1 q) fun ws s2 ⟨zs, H2, I2, rz, l1, l2, q2⟩ => ⟨I2.kIn, ?_⟩
  rw [hks]
  refine wpAny_call (codeAny_mono (F.run X.A X.stack s2 H2 ⟨us, ks.zip ws⟩ (g us ws) (gV vs zs) cont E hr I2.env0 (hb.to s2 us ws I2.kIn (r.length.symm.trans l1) (rz.length.symm.trans l2)) (hb.rel r rz) q2) fun r s' hq => ?_)
  cases r with
  | error e => exact False.elim hq
  | ok fl =>
    cases fl with
    | ret u => exact ⟨H2, s2, [], I2, .nil, hq⟩
    | next => exact False.elim hq
    | brk => exact False.elim hq
    | cont => exact False.elim hq
end
end L2
/-! ## str(..) and f-strings of ints of up to 4300 digits; str(o), repr(o), bool(o) of an own class; o == x, o ** n -/
namespace L2
open PySem PySem.Spec PyProof.Rows
section
variable {X : Cx}
theorem Inv.nodig (c : ndgB X.K = true) {pins : List (Addr × Obj)} {σ : St} {H : Hp} {s : Shared} (I : Inv X pins σ H s) : s.heap.NoDigits := ndgB_ok c I.kIn
/-- {x}: a text, or an int of up to 4300 digits -/
def tFmtD (te : TE) : TE := fun σ H Q => te σ H fun x H1 => (∃ y : Str, x = .str y ∧ y.length ≤ sizeLine ∧ Q (.str y) H1) ∨ ∃ i : Int, x = .int i ∧ i.natAbs < 10 ^ 4300 ∧ Q (.str (toString i)) H1
theorem pe_fmtD (c : ndgB X.K = true) {k : Nat} (hr : Room k X.A) {e : Expr} {te : TE} {pos : Pos} (he : PE X e te) : PE X (.FormattedValue e (-1) none pos) (tFmtD te) := by
  refine ⟨fun pins s σ H Q I h => ?_⟩
  refine wpAny_FormattedValue_plain (thn (he.run pins s σ H _ I h) fun v s1 hv => ?_)
  obtain ⟨x, H1, I1, r1, q⟩ := hv
  rcases q with ⟨y, rfl, hz, q⟩ | ⟨i, rfl, hz, q⟩
  · obtain ⟨t, rfl⟩ := r1
    exact wpAny_formatField_str ⟨.str y, H1, I1, ⟨t, rfl⟩, q⟩ ⟨.str y, H1, I1.tok _, ⟨_, rfl⟩, q⟩ hz
  · obtain ⟨t, rfl⟩ := r1
    exact formatField_int hr.hd (I1.nodig c) (fun _ => ⟨.str (toString i), H1, I1.tok _, ⟨_, rfl⟩, q⟩) fun hge => absurd hz (Nat.not_lt.mpr hge)
theorem call_strD (c : ndgB X.K = true) {k : Nat} (hr : Room k X.A) : CallR X (.type "str") (fun xs H Q => ∃ i, xs = [.int i] ∧ i.natAbs < 10 ^ 4300 ∧ Q (.str (toString i)) H) := by
  intro pins s σ H xs us Q I r h
  obtain ⟨i, rfl, hz, q⟩ := h
  obtain ⟨u, rfl, t, rfl⟩ := vals1 r
  exact str_of_int_or hr.hd (I.nodig c) (fun _ => ⟨.str _, H, I.tok _, ⟨_, rfl⟩, q⟩) fun hge => absurd hz (Nat.not_lt.mpr hge)
section
variable {CX : CXT} {k : Nat} {f C : Addr} {fd : FuncData} {ps : List Str} {sp : Sp} {E : XK}
/-- f(o), somewhere below what runs -/
theorem run_at {A' : Around} {pins : List (Addr × Obj)} {σ : St} {H : Hp} {s : Shared} {a : Addr} {Q : VK} (F : FnOk X.prog X.w X.K X.mg X.base CX k f fd ps sp) (hr : Room k A') (e0 : Env0 X.prog X.w X.K X.mg X.base A' X.stack s H)
    (hb : Binds X.K fd ps []) (hx : Passes CX X E) (I : Inv X pins σ H s) (q : sp [.ref a] H Q E) : wpAny (model X.prog X.w) A' (call (.ref f) [.ref a]) (EP X pins σ Q) X.xe s := by
  have r2 : Vals [V.ref a] [Value.ref a] := .cons rfl .nil
  have hl := F.len _ _ _ _ q
  refine wpAny_call (codeAny_mono (F.run A' X.stack s H ⟨[.ref a], []⟩ [.ref a] [.ref a] Q E hr e0 (by
    have := hb s [.ref a] I.kIn (by simpa using hl)
    simpa using this) r2 q) fun r s' hq => ?_)
  cases r with
  | error e => exact hx pins σ H s e s' I hq
  | ok fl =>
    cases fl with
    | ret w => exact I.after hq
    | next => exact False.elim hq
    | brk => exact False.elim hq
    | cont => exact False.elim hq
def rStrOf (C : Addr) (sp : Sp) (E : XK) : List V → Hp → VK → Prop := fun xs H Q => ∃ a dx fs, xs = [.ref a] ∧ H a = some (.ins C dx fs) ∧ sp [.ref a] H (fun v H' => ∃ y, v = .str y ∧ Q (.str y) H') E
theorem strBack_of {pins : List (Addr × Obj)} {σ : St} {Q : VK} {u : Value} {s' : Shared} (h : EP X pins σ (fun v H' => ∃ y, v = .str y ∧ Q (.str y) H') u s') : PySem.W.StrBack (EP X pins σ Q) u s' := by
  obtain ⟨v, H', I, r, y, rfl, q⟩ := h
  obtain ⟨t, rfl⟩ := r
  exact ⟨.str y, H', I, ⟨t, rfl⟩, q⟩
/-- str(o) by an own __str__ -/
theorem call_strOwn (F : FnOk X.prog X.w X.K X.mg X.base CX k f fd ps sp) (hr : Room (k + 2) X.A) (hs : PySem.W.findIn X.K (.ref C) "__str__" = some (some (.ref f))) (hf : PySem.W.isFn X.K (.ref f) = true)
    (hb : Binds X.K fd ps []) (hx : Passes CX X E) : CallR X (.type "str") (rStrOf C sp E) := by
  intro pins s σ H xs us Q I r h
  obtain ⟨a, dx, fs, rfl, ha, q⟩ := h
  obtain ⟨u, rfl, r1⟩ := vals1 r
  cases r1
  obtain ⟨mA, J, _⟩ := ins_get I.hok ha
  obtain ⟨od, J, _⟩ := J.look
  exact PySem.W.kso_call hr.in1.in1.units0 I.kIn J hs hf (wpAny_mono (run_at F hr.in1.in1 I.env0.in1.in1 hb hx I q) (fun u s' h => strBack_of h) fun _ _ e => e)
/-- repr(o) by an own __repr__ -/
theorem call_reprOwn (F : FnOk X.prog X.w X.K X.mg X.base CX k f fd ps sp) (hr : Room (k + 1) X.A) (hs : PySem.W.findIn X.K (.ref C) "__repr__" = some (some (.ref f))) (hf : PySem.W.isFn X.K (.ref f) = true)
    (hb : Binds X.K fd ps []) (hx : Passes CX X E) : CallR X (.builtin "repr") (rStrOf C sp E) := by
  intro pins s σ H xs us Q I r h
  obtain ⟨a, dx, fs, rfl, ha, q⟩ := h
  obtain ⟨u, rfl, r1⟩ := vals1 r
  cases r1
  obtain ⟨mA, J, _⟩ := ins_get I.hok ha
  obtain ⟨od, J, _⟩ := J.look
  obtain ⟨m, hF⟩ := I.fr
  exact PySem.W.repr_K hr.in1.units0 hF I.ok.mod.kin J hs hf (wpAny_mono (run_at F hr.in1 I.env0.in1 hb hx I q) (fun u s' h => strBack_of h) fun _ _ e => e)
/-- o == x, x any value of another kind -/
def rOwnX (K : PySem.W.Frag) (C : Addr) (sp : Sp) (E : XK) : R2 := fun x y H Q => ∃ a dx fs, x = .ref a ∧ H a = some (.ins C dx fs) ∧ ((∃ i, y = .int i) ∨ (∃ z, y = .str z) ∨ (∃ b xs, y = .ref b ∧ SqT K H b xs)) ∧ sp [x, y] H Q E
theorem op_ownEqX (F : FnOk X.prog X.w X.K X.mg X.base CX k f fd ps sp) (hr : Room k X.A) (hs : PySem.W.findIn X.K (.ref C) "__eq__" = some (some (.ref f))) (hf : PySem.W.isFn X.K (.ref f) = true)
    (n1 : PySem.W.notFirst X.K C (.type "int") = true) (n2 : PySem.W.notFirst X.K C (.type "str") = true) (n3 : PySem.W.notFirst X.K C (.type "tuple") = true)
    (hb : Binds X.K fd ps []) (hx : Passes CX X E) : OpR X (compareOp .Eq) (rOwnX X.K C sp E) := by
  intro pins s σ H x y v u Q I rx ry hq
  obtain ⟨a, dx, fs, rfl, ha, hy, q⟩ := hq
  cases rx
  obtain ⟨mA, J, _⟩ := ins_get I.hok ha
  obtain ⟨od, J, _⟩ := J.look
  obtain ⟨m, hF⟩ := I.fr
  show wpAny (model X.prog X.w) X.A (richCompare .Eq (.ref a) u) (EP X pins σ Q) X.xe s
  have go : ∀ tb, PySem.W.Looks (model X.prog X.w) s.heap (typeOf u) tb → PySem.W.notFirst X.K C tb = true → wpAny (model X.prog X.w) X.A (richCompare .Eq (.ref a) u) (EP X pins σ Q) X.xe s := fun tb L n => by
    refine PySem.W.cmp_K (op := .Eq) (tb := tb) hr.units0 hF I.ok.mod.kin J L n hs hf ?_
    exact thn (run_fn (us := [.ref a, u]) (vs := [.ref a, y]) F hr hb .nil hx I (.cons rfl (.cons ry .nil)) q) fun u s' h => BF.cmpBack_of h
  rcases hy with ⟨i, rfl⟩ | ⟨z, rfl⟩ | ⟨b, xs, rfl, hbt⟩
  · obtain ⟨t, rfl⟩ := ry
    exact go (.type "int") (PySem.W.Looks.of_pure rfl) n1
  · obtain ⟨t, rfl⟩ := ry
    exact go (.type "str") (PySem.W.Looks.of_pure rfl) n2
  · cases ry
    obtain ⟨its, _, ⟨o, ho, hc, _⟩, _⟩ := I.tuple hbt
    refine go (.type "tuple") ?_ n3
    intro A' Q' E' s2 k2 q2
    simp only [typeOf]
    exact wpAny_typeOf_ref (k2 _ _ ho) (by rw [hc]; exact q2)
/-- o ** n -/
def rOwnI (C : Addr) (sp : Sp) (E : XK) : R2 := fun x y H Q => ∃ a dx fs i, x = .ref a ∧ y = .int i ∧ H a = some (.ins C dx fs) ∧ sp [.ref a, .int i] H Q E
theorem op_ownPow (F : FnOk X.prog X.w X.K X.mg X.base CX k f fd ps sp) (hr : Room k X.A) (hc : PySem.W.selfFirst X.K C = true) (hs : PySem.W.findIn X.K (.ref C) "__pow__" = some (some (.ref f))) (hf : PySem.W.isFn X.K (.ref f) = true)
    (hp : PySem.W.findIn X.K (.ref C) "__rpow__" = some none) (h1 : (PySem.W.findIn X.K (.type "int") "__pow__").isSome = true) (h2 : (PySem.W.findIn X.K (.type "int") "__rpow__").isSome = true) (h3 : PySem.W.subIn X.K (.type "int") (.ref C) = some false)
    (hb : Binds X.K fd ps []) (hx : Passes CX X E) : OpR X (binaryOp .Pow) (rOwnI C sp E) := by
  intro pins s σ H x y v u Q I rx ry hq
  obtain ⟨a, dx, fs, i, rfl, rfl, ha, q⟩ := hq
  cases rx
  have ry0 := ry
  obtain ⟨t, rfl⟩ := ry
  obtain ⟨mA, J, _⟩ := ins_get I.hok ha
  obtain ⟨od, J, _⟩ := J.look
  obtain ⟨m, hF⟩ := I.fr
  obtain ⟨fo, e1⟩ := Option.isSome_iff_exists.mp h1
  obtain ⟨ro, e2⟩ := Option.isSome_iff_exists.mp h2
  refine PySem.W.ksp_binT (T := "int") hF I.ok.mod.kin J rfl hc hs hf hp (.inl rfl) e1 e2 h3 ?_
  exact thn (run_fn (us := [.ref a, .int i t]) (vs := [.ref a, .int i]) F hr hb .nil hx I (.cons rfl (.cons ry0 .nil)) q) fun u s' h => BF.cmpBack_of h
end
/-- bool(o), o without __bool__ and __len__ -/
theorem meets_boolO (K : PySem.W.Frag) (a C : Addr) : Meets (Builtin.«bool.__new__» ⟨[.type "bool", .ref a], []⟩) (fun _ R s => (∃ ox od, K.In s.heap ∧ PySem.W.InstAt s.heap a ox C od ∧ PySem.W.findIn K (.ref C) "__bool__" = some none ∧ PySem.W.findIn K (.ref C) "__len__" = some none) ∧ R (.ok (.ret (.bool true))) s) :=
  Meets.of_wp fun prog w A R s hs => by
    obtain ⟨⟨ox, od, X0, J, hb, hl⟩, hs⟩ := hs
    have f1 := PySem.F.conv_sub_bool
    have F0 : ∀ b o, s.heap.get? b = some o → s.heap.get? b = some o := fun _ _ e => e
    obtain ⟨hp, g, d, tk, os⟩ := s
    have tr : ∀ {Q : Bool → Shared → Prop} {E : Value → Shared → Prop} {A' : Around}, Q true ⟨hp, g, d, tk, os⟩ → wpAny (model prog w) A' (truthy (.ref a)) Q E ⟨hp, g, d, tk, os⟩ := fun {Q E A'} q => by
      unfold truthy
      refine wpAny_bind (m := callSpecial? (.ref a) (Str.ofString "__bool__")) (wpAny_bind (wpAny_bind (J.type.here ((PySem.W.looks_findIn X0 hb).here (wpAny_pure ?_)))))
      refine wpAny_bind (wpAny_bind (J.type.here ((PySem.W.looks_findIn X0 hl).here ?_)))
      exact wpAny_pure q
    repeat (any_goals (first | assumption | (with_reducible refine tr ?_) | wp_step))
    all_goals first | exact ⟨_, rfl, hs⟩ | exact hs | skip
def rBoolO (C : Addr) : List V → Hp → VK → Prop := fun xs H Q => ∃ a dx fs, xs = [.ref a] ∧ H a = some (.ins C dx fs) ∧ Q (.bl true) H
theorem call_boolOwn {C : Addr} (hb : PySem.W.findIn X.K (.ref C) "__bool__" = some none) (hl : PySem.W.findIn X.K (.ref C) "__len__" = some none) : CallR X (.type "bool") (rBoolO C) := by
  intro pins s σ H xs us Q I r h
  obtain ⟨a, dx, fs, rfl, ha, q⟩ := h
  obtain ⟨u, rfl, r1⟩ := vals1 r
  cases r1
  obtain ⟨mA, J, _⟩ := ins_get I.hok ha
  obtain ⟨od, J, _⟩ := J.look
  exact call_bool_1 (meets_boolO X.K a C) ⟨⟨_, _, I.kIn, J, hb, hl⟩, rfl, .bl true, H, I, rfl, q⟩
end
end L2
/-! ## the same by data -/
namespace VF
open PySem PySem.Spec PyProof.Rows L2
def wStrD : List DV → DP → Prop
  | [.int i], P => i.natAbs < 10 ^ 4300 ∧ P (.str (toString i))
  | _, _ => False
section
variable {K : PySem.W.Frag} {W : Wc} {X : Cx} {e : Expr} {wa wb : WE} {wr : WA} {Cs : Cf → Prop} {sp : DSp} {E' : XV} {E : XK} {cl : Str} {pos : Pos}
theorem d_strD : DCall K (fun xs H Q => ∃ i, xs = [.int i] ∧ i.natAbs < 10 ^ 4300 ∧ Q (.str (toString i)) H) wStrD := fun b M H xs ds Q' Q al hd hw k => by
  match ds, hw with
  | [.int i], hw =>
    cases hd with
    | cons d1 d2 =>
      cases d1
      cases d2
      exact ⟨i, rfl, hw.1, k _ H _ (BF.Ex.refl H) (.str _) hw.2⟩
def wFmtD (wa : WE) : WE := fun τ n Q => wa τ n fun d τ1 n1 => (∃ y, d = .str y ∧ y.length ≤ 1000000 ∧ Q (.str y) τ1 n1) ∨ ∃ i : Int, d = .int i ∧ i.natAbs < 10 ^ 4300 ∧ Q (.str (toString i)) τ1 n1
theorem ve_fmtD (h : PE X e (tFmtD (liftE K W wa))) : PE X e (liftE K W (wFmtD wa)) := BF.PE.imp h fun σ H Q ⟨Γ, O, τ, n, Q', q, hw, k⟩ => by
  refine ⟨Γ, O, τ, n, _, q, hw, fun v H1 d O1 τ1 n1 q1 d1 hw1 => ?_⟩
  rcases hw1 with ⟨y, ed, hl, hq⟩ | ⟨i, ed, hl, hq⟩
  · subst ed
    cases d1
    exact .inl ⟨y, rfl, BF.sz_of hl, k _ H1 _ O1 τ1 n1 q1 (.str _) hq⟩
  · subst ed
    cases d1
    exact .inr ⟨i, rfl, hl, k _ H1 _ O1 τ1 n1 q1 (.str _) hq⟩
/-- str(o), repr(o) of an own class -/
def wStrO (cl : Str) (sp : DSp) (E' : XV) (wr : WA) : WE := fun τ n Q => wr τ n fun ds τ1 n1 => ∃ ns es, ds = [.ins cl ns es] ∧ sp [.ins cl ns es] n1 (fun g n2 => ∃ y, g = .str y ∧ Q (.str y) τ1 n2) E'
theorem ve_strO (hC : Cs W.toCf) (hE : ELinkG K W E' E) (h : PE X e (tCB (rStrOf (He.ga K cl) (liftSp K Cs sp) E) (liftA K W wr))) : PE X e (liftE K W (wStrO cl sp E' wr)) := by
  refine BF.PE.imp h fun σ H Q ⟨Γ, O, τ, n, Q', q, hw, k⟩ => ?_
  refine ⟨Γ, O, τ, n, _, q, hw, fun vs H1 ds O1 τ1 n1 q1 d1 ⟨ns, es, ed, hw1⟩ => ?_⟩
  subst ed
  cases d1 with
  | cons d1 d2 =>
    cases d2
    have a1 := d1
    cases d1 with
    | ins h1 h2 h3 h4 =>
      refine ⟨_, _, _, rfl, h1, sp_call (Q' := fun g τx n2 => ∃ y, g = .str y ∧ Q' (.str y) τx n2) hC hE q1 (.cons a1 .nil) hw1 fun v H' d O' τ' n' q' dd hq => ?_⟩
      obtain ⟨y, rfl, hq⟩ := hq
      cases dd
      exact ⟨y, rfl, k _ H' _ O' τ' n' q' (.str y) hq⟩
/-- bool(o) -/
def wBoolO (cl : Str) : List DV → DP → Prop := fun ds P => ∃ ns es, ds = [.ins cl ns es] ∧ P (.bl true)
theorem d_boolO : DCall K (rBoolO (He.ga K cl)) (wBoolO cl) := fun b M H xs ds Q' Q al hd ⟨ns, es, ed, hw⟩ k => by
  subst ed
  cases hd with
  | cons d1 d2 =>
    cases d2
    cases d1 with
    | ins h1 h2 h3 h4 => exact ⟨_, _, _, rfl, h1, k _ H _ (BF.Ex.refl H) (.bl _) hw⟩
/-- o == x -/
def wOwnX (cl : Str) (sp : DSp) (E' : XV) (wa wb : WE) : WE := fun τ n Q => wa τ n fun d τ1 n1 => wb τ1 n1 fun f τ2 n2 => ∃ ns es, d = .ins cl ns es ∧ ((∃ i, f = .int i) ∨ (∃ z, f = .str z) ∨ ∃ xs, f = .tup xs) ∧ sp [d, f] n2 (fun g n3 => Q g τ2 n3) E'
theorem ve_ownX (hC : Cs W.toCf) (hE : ELinkG K W E' E) (h : PE X e (tOp (rOwnX K (He.ga K cl) (liftSp K Cs sp) E) (liftE K W wa) (liftE K W wb))) : PE X e (liftE K W (wOwnX cl sp E' wa wb)) := by
  refine BF.PE.imp h fun σ H Q ⟨Γ, O, τ, n, Q', q, hw, k⟩ => ?_
  refine ⟨Γ, O, τ, n, _, q, hw, fun v H1 d O1 τ1 n1 q1 d1 hw1 => ?_⟩
  refine ⟨.d v d :: Γ, O1, τ1, n1, _, q1.gcons d1, hw1, fun u H2 f O2 τ2 n2 q2 d2 ⟨ns, es, ed, hf, hw2⟩ => ?_⟩
  have d3 := q2.head
  subst ed
  have a1 := d3
  have a2 := d2
  have oth : (∃ i, u = .int i) ∨ (∃ z, u = .str z) ∨ (∃ b xs, u = .ref b ∧ SqT K H2 b xs) := by
    rcases hf with ⟨i, rfl⟩ | ⟨z, rfl⟩ | ⟨xs, rfl⟩
    · cases d2; exact .inl ⟨_, rfl⟩
    · cases d2; exact .inr (.inl ⟨_, rfl⟩)
    · cases d2 with
      | tup h1 h2 => exact .inr (.inr ⟨_, _, rfl, h1.1⟩)
  cases d3 with
  | ins h1 h2 h3 h4 => exact ⟨_, _, _, rfl, h1, oth, sp_call hC hE q2.tail (.cons a1 (.cons a2 .nil)) hw2 k⟩
/-- o ** n -/
def wOwnI (cl : Str) (sp : DSp) (E' : XV) (wa wb : WE) : WE := fun τ n Q => wa τ n fun d τ1 n1 => wb τ1 n1 fun f τ2 n2 => ∃ ns es i, d = .ins cl ns es ∧ f = .int i ∧ sp [d, f] n2 (fun g n3 => Q g τ2 n3) E'
theorem ve_ownI (hC : Cs W.toCf) (hE : ELinkG K W E' E) (h : PE X e (tOp (rOwnI (He.ga K cl) (liftSp K Cs sp) E) (liftE K W wa) (liftE K W wb))) : PE X e (liftE K W (wOwnI cl sp E' wa wb)) := by
  refine BF.PE.imp h fun σ H Q ⟨Γ, O, τ, n, Q', q, hw, k⟩ => ?_
  refine ⟨Γ, O, τ, n, _, q, hw, fun v H1 d O1 τ1 n1 q1 d1 hw1 => ?_⟩
  refine ⟨.d v d :: Γ, O1, τ1, n1, _, q1.gcons d1, hw1, fun u H2 f O2 τ2 n2 q2 d2 ⟨ns, es, i, ed, ef, hw2⟩ => ?_⟩
  have d3 := q2.head
  subst ed ef
  have a1 := d3
  cases d2
  cases d3 with
  | ins h1 h2 h3 h4 => exact ⟨_, _, _, i, rfl, rfl, h1, sp_call hC hE q2.tail (.cons a1 (.cons (.int i) .nil)) hw2 k⟩
/-- ~o -/
def wOwn1 (cl : Str) (sp : DSp) (E' : XV) (wa : WE) : WE := fun τ n Q => wa τ n fun d τ1 n1 => ∃ ns es, d = .ins cl ns es ∧ sp [d] n1 (fun g n3 => Q g τ1 n3) E'
theorem ve_own1 (hC : Cs W.toCf) (hE : ELinkG K W E' E) (h : PE X e (tUn (BF.rOwn1 (He.ga K cl) (liftSp K Cs sp) E) (liftE K W wa))) : PE X e (liftE K W (wOwn1 cl sp E' wa)) := by
  refine BF.PE.imp h fun σ H Q ⟨Γ, O, τ, n, Q', q, hw, k⟩ => ?_
  refine ⟨Γ, O, τ, n, _, q, hw, fun v H1 d O1 τ1 n1 q1 d1 ⟨ns, es, ed, hw1⟩ => ?_⟩
  subst ed
  have a1 := d1
  cases d1 with
  | ins h1 h2 h3 h4 => exact ⟨_, _, _, rfl, h1, sp_call hC hE q1 (.cons a1 .nil) hw1 k⟩
end
section
variable {wa wb : WE} {wr : WA} {cl : Str} {sp : DSp} {E' : XV} {τ : ST} {n : Int} {Q : DV → ST → Int → Prop} {P : DP} {ns : List Str} {ds : List DV}
theorem y_strD {i : Int} (h : i.natAbs < 10 ^ 4300) (k : P (.str (toString i))) : wStrD [.int i] P := ⟨h, k⟩
theorem y_strO (k : wr τ n fun ds τ1 n1 => ∃ ns es, ds = [.ins cl ns es] ∧ sp [.ins cl ns es] n1 (fun g n2 => ∃ y, g = .str y ∧ Q (.str y) τ1 n2) E') : wStrO cl sp E' wr τ n Q := k
theorem y_ownX (k : wa τ n fun d τ1 n1 => wb τ1 n1 fun f τ2 n2 => ∃ ns es, d = .ins cl ns es ∧ ((∃ i, f = .int i) ∨ (∃ z, f = .str z) ∨ ∃ xs, f = .tup xs) ∧ sp [d, f] n2 (fun g n3 => Q g τ2 n3) E') : wOwnX cl sp E' wa wb τ n Q := k
theorem y_ownI (k : wa τ n fun d τ1 n1 => wb τ1 n1 fun f τ2 n2 => ∃ ns es i, d = .ins cl ns es ∧ f = .int i ∧ sp [d, f] n2 (fun g n3 => Q g τ2 n3) E') : wOwnI cl sp E' wa wb τ n Q := k
theorem y_own1 (k : wa τ n fun d τ1 n1 => ∃ ns es, d = .ins cl ns es ∧ sp [d] n1 (fun g n3 => Q g τ1 n3) E') : wOwn1 cl sp E' wa τ n Q := k
theorem y_boolO (k : P (.bl true)) : wBoolO cl [.ins cl ns ds] P := ⟨ns, ds, rfl, k⟩
end
end VF
/-! ## ints of the top -/
namespace BF
open PySem PySem.Spec PyProof.Rows L2
def isInt (x : Str) (i : Int) : He.Fa → Bool
  | .int y j => decide (y = x) && decide (j = i)
  | _ => false
theorem TX.int {fa : List He.Fa} {fn : List He.DefD} {ex : PySem.W.Frag → Bool} {K : PySem.W.Frag} {mg : Str → Option Value} (T : TX fa fn ex K mg) (x : Str) (i : Int) (h : fa.any (isInt x i) = true) : ∃ t, mg x = some (.int i t) := by
  obtain ⟨f, e, o⟩ := T.fact _ h
  cases f with
  | int y j =>
    obtain ⟨q1, q2⟩ := He.ba e
    rw [← (of_decide_eq_true q1 : y = x), ← (of_decide_eq_true q2 : j = i)]
    have o2 : (match PySem.W.nsIn K mainGlobals y with
      | some (some (.int k _)) => decide (k = j)
      | _ => false) = true := o
    split at o2
    · rename_i k t q
      have e3 : k = j := of_decide_eq_true o2
      subst e3
      exact ⟨t, T.gl _ _ q⟩
    · cases o2
  | _ => cases e
theorem x_iteNd {c A B : Prop} [Decidable c] (h1 : c → B) (h2 : ¬ c → A) : if (!decide c) = true then A else B := by
  by_cases h : c
  · rw [decide_eq_true h]; exact h1 h
  · rw [decide_eq_false h]; exact h2 h
theorem x_iteB {b : Bool} {A B : Prop} (h1 : b = true → A) (h2 : b = false → B) : if b = true then A else B := by
  cases b
  · exact h2 rfl
  · exact h1 rfl
end BF
namespace VF
open PySem PySem.Spec PyProof.Rows L2
theorem ve_gint {K : PySem.W.Frag} {W : Wc} {X : Cx} {x : Str} {i : Int} {pos : Pos} (hg : Gl X x) (hm : ∃ t, X.mg x = some (.int i t)) (hd : (x == ("__debug__" : Str)) = false := by decide) : PE X (.Name x pos) (liftE K W (wC (.int i))) := by
  obtain ⟨t, e⟩ := hm
  exact ve_int (pe_glob (v := .int i) hg e ⟨t, rfl⟩ hd)
end VF
/-! ## Steps for x += .., strings of own objects -/
namespace VF
open PySem PySem.Spec PyProof.Rows L2
section
variable {D : WEnds} {τ : ST} {n : Int} {we wa : WE} {i : Nat} {g : Int → Int → Int} {Q : DV → ST → Int → Prop} {P : DP}
theorem y_aug {z0 : Int} (h : τ[i]? = some (some (.d (.int z0)))) (k : we τ n fun d τ1 n1 => ∃ z k, τ1[i]? = some (some (.d (.int z))) ∧ d = .int k ∧ Nx D (τ1.set i (some (.d (.int (g z k))))) n1) : wAug i g we D τ n := ⟨⟨z0, h⟩, k⟩
theorem y_aug2 {z j : Int} (h : τ[i]? = some (some (.d (.int z)))) (k : Nx D (τ.set i (some (.d (.int (g z j))))) n) : ∃ z' k', τ[i]? = some (some (.d (.int z'))) ∧ DV.int j = .int k' ∧ Nx D (τ.set i (some (.d (.int (g z' k'))))) n := ⟨z, j, h, rfl, k⟩
theorem y_fmtD (k : wa τ n fun d τ1 n1 => (∃ y, d = .str y ∧ y.length ≤ 1000000 ∧ Q (.str y) τ1 n1) ∨ ∃ i : Int, d = .int i ∧ i.natAbs < 10 ^ 4300 ∧ Q (.str (toString i)) τ1 n1) : wFmtD wa τ n Q := k
theorem y_addS {x y : Str} (l : x.length + y.length ≤ 1000000) (k : P (.str (x ++ y))) : wAdd (.str x) (.str y) P := ⟨l, k⟩
/-! f-strings -/
theorem y_js {w1 : WE} {ws : List WE} {acc : Str} {R : Str → ST → Int → Prop} (k : w1 τ n fun d τ1 n1 => ∃ y, d = .str y ∧ (acc ++ y).length ≤ 1000000 ∧ wJs ws (acc ++ y) τ1 n1 R) : wJs (w1 :: ws) acc τ n R := k
theorem y_js0 {acc : Str} {R : Str → ST → Int → Prop} (k : R acc τ n) : wJs [] acc τ n R := k
theorem y_fmtDi {i : Int} {R : Int → Prop} {S : Str → Prop} (l : i.natAbs < 10 ^ 4300) (k : R i) : (∃ y, DV.int i = .str y ∧ S y) ∨ ∃ j : Int, DV.int i = .int j ∧ j.natAbs < 10 ^ 4300 ∧ R j := .inr ⟨i, rfl, l, k⟩
theorem y_js1 {z : Str} {acc : Str} {R : Str → Prop} (l : acc.length + z.length ≤ 1000000) (k : R z) : ∃ y, DV.str z = .str y ∧ (acc ++ y).length ≤ 1000000 ∧ R y := ⟨z, rfl, by rw [strLen_append]; exact l, k⟩
end
end VF
/-! ## Steps: gcd, fields of a new object, tuples of ints of the top, an int in a tuple of ints -/
namespace VF
open PySem PySem.Spec PyProof.Rows L2
section
variable {K : PySem.W.Frag} {W : Wc} {X : Cx} {P : DP} {D : WEnds} {τ : ST} {n : Int} {we : WE} {i : Nat} {f : Str}
theorem y_gcd {a b : Int} {g : Nat} (h : Nat.gcd a.natAbs b.natAbs = g) (q : P (.int (g : Int))) : wGcd [.int a, .int b] P := by
  show P (.int ((Nat.gcd a.natAbs b.natAbs : Nat) : Int))
  rw [h]
  exact q
theorem y_setF (k : we τ n fun d τ1 n1 => ∃ z c ns ds, τ1[i]? = some (some (.self z c ns ds)) ∧ AtOk K c f ∧ ns.length < 100 ∧ D.nx (τ1.set i (some (.self z c (pfN f ns) (pfD f d ns ds)))) n1) : wSetF K i f we D τ n := k
theorem y_setF2 {c : Str} {d : DV} {z : Addr} {ns : List Str} {ds : List DV} (h : τ[i]? = some (some (.self z c ns ds))) (a : AtOk K c f) (l : ns.length < 100) (k : Nx D (τ.set i (some (.self z c (pfN f ns) (pfD f d ns ds)))) n) :
    ∃ z c ns ds, τ[i]? = some (some (.self z c ns ds)) ∧ AtOk K c f ∧ ns.length < 100 ∧ D.nx (τ.set i (some (.self z c (pfN f ns) (pfD f d ns ds)))) n := ⟨z, c, ns, ds, h, a, l, k⟩
theorem ve_gtup {x : Str} {a : Addr} {ns : List Int} {pos : Pos} (hg : Gl X x) (hm : X.mg x = some (.ref a)) (ht : ∀ H, SqT K H a (ns.map V.int)) (hd : (x == ("__debug__" : Str)) = false := by decide) : PE X (.Name x pos) (liftE K W (wC (.tup (iD ns)))) :=
  lift_c (v := .ref a) (pe_glob hg hm rfl hd) fun _ _ H => .tup ⟨ht H, fun _ H' => ht H'⟩ (DatL.ints ns)
theorem flL_ints : ∀ (ns : List Int), flL (iD ns) = some (ns.map V.int)
  | [] => rfl
  | n :: ns => by
    rw [iD, List.map_cons]
    simp only [flL, flD]
    rw [show flL (List.map DV.int ns) = some (ns.map V.int) from flL_ints ns]
    rfl
theorem y_inI {neg : Bool} {a : Int} {ns : List Int} (k : P (.bl (if neg then !(ns.contains a) else ns.contains a))) : wIn neg (.int a) (.tup (iD ns)) P := y_inF (.inr rfl) rfl (flL_ints ns) (by rw [BF.inV_ints]; exact k)
end
end VF
/-! ## isinstance(x, C), C an own class, by data -/
namespace VF
open PySem PySem.Spec PyProof.Rows L2
section
variable {K : PySem.W.Frag} {P : DP}
/-- what isinstance of the class called c says of a datum -/
def KitD (K : PySem.W.Frag) (d : DV) (c : Str) (b : Bool) : Prop := (∃ a, tyD d = some a ∧ PySem.W.kitOne K (.type a) (.ref (He.ga K c)) = some b) ∨
  ∃ c0 ns es, d = .ins c0 ns es ∧ BF.isiB K (He.ga K c0) = true ∧ Cls K (He.ga K c0) ∧ PySem.W.kitOne K (.ref (He.ga K c0)) (.ref (He.ga K c)) = some b
def wIsiC (K : PySem.W.Frag) : List DV → DP → Prop
  | [d, .cls c], Q => ∃ b, KitD K d c b ∧ Q (.bl b)
  | _, _ => False
theorem d_isiC : DCall K (rIsi K) (wIsiC K) := fun b M H xs ds Q' Q al hd hw k => by
  cases hd with
  | nil => exact hw.elim
  | cons h1 hd => cases hd with
    | nil => exact hw.elim
    | cons h2 hd => cases hd with
      | cons _ _ => cases h2 <;> exact hw.elim
      | nil =>
        cases h2 with
        | cls c =>
          obtain ⟨r, hk, hq⟩ := hw
          rcases hk with ⟨a, e1, e2⟩ | ⟨c0, ns, es, rfl, e1, e2, e3⟩
          · exact ⟨_, _, _, _, r, rfl, .own _, h1.tyX e1, e2, k _ H _ (BF.Ex.refl H) (.bl r) hq⟩
          · cases h1 with
            | ins k1 k2 k3 k4 => exact ⟨_, _, _, _, r, rfl, .own _, BF.isiB_ty e1 e2 k1, e3, k _ H _ (BF.Ex.refl H) (.bl r) hq⟩
        | _ => exact hw.elim
theorem y_isiC {d : DV} {c : Str} {b : Bool} (h : KitD K d c b) (k : P (.bl b)) : wIsiC K [d, .cls c] P := ⟨b, h, k⟩
theorem kitD_own {c : Str} {ns : List Str} {es : List DV} (h1 : BF.isiB K (He.ga K c) = true) (h2 : Cls K (He.ga K c)) : KitD K (.ins c ns es) c true := .inr ⟨c, ns, es, rfl, h1, h2, BF.kitO⟩
theorem kitD_ty {d : DV} {c : Str} {a : String} {b : Bool} (e : tyD d = some a) (h : PySem.W.kitOne K (.type a) (.ref (He.ga K c)) = some b) : KitD K d c b := .inl ⟨a, e, h⟩
end
end VF
/-! ## Generator defs by data; list(g(..)) -/
namespace VF
open PySem PySem.Spec PyProof.Rows L2
/-- what is wanted behind a statement of a generator, by data; the list: what is out so far -/
structure GWEnds where
  nx : List DV → ST → Int → Prop
  bk : List DV → ST → Int → Prop := fun _ _ _ => False
  ct : List DV → ST → Int → Prop := fun _ _ _ => False
abbrev WGN := GWEnds → List DV → ST → Int → Prop
def GWEnds.at (D : GWEnds) (ys : List DV) : WEnds := { nx := D.nx ys, rt := fun _ _ => False, bk := D.bk ys, ct := D.ct ys }
structure LkG (K : PySem.W.Frag) (W : Wc) (Γ : List Gh) (D' : GWEnds) (D : GEnds) : Prop where
  nx : ∀ σ H τ n O Γ' us ys, (∀ g ∈ Γ, g ∈ Γ') → Gh.dl us ys ∈ Γ' → Rel K W Γ' O [] τ n σ H → D'.nx ys τ n → D.nx us σ H
  bk : ∀ σ H τ n O Γ' us ys, (∀ g ∈ Γ, g ∈ Γ') → Gh.dl us ys ∈ Γ' → Rel K W Γ' O [] τ n σ H → D'.bk ys τ n → D.bk us σ H
  ct : ∀ σ H τ n O Γ' us ys, (∀ g ∈ Γ, g ∈ Γ') → Gh.dl us ys ∈ Γ' → Rel K W Γ' O [] τ n σ H → D'.ct ys τ n → D.ct us σ H
def liftGn (K : PySem.W.Frag) (W : Wc) (w : WGN) : TGn := fun D us σ H => ∃ Γ O τ n D' ys, Gh.dl us ys ∈ Γ ∧ Rel K W Γ O [] τ n σ H ∧ w D' ys τ n ∧ LkG K W Γ D' D
def gPlain (ws : WS) : WGN := fun D ys τ n => ws (D.at ys) τ n
def gSeq (s t : WGN) : WGN := fun D ys τ n => s { D with nx := t D } ys τ n
def gNext : WGN := fun D ys τ n => D.nx ys τ n
def gYield (we : WE) : WGN := fun D ys τ n => ys.length < 1000000 ∧ we τ n fun d τ1 n1 => D.nx (ys ++ [d]) τ1 n1
def gFor (wi : WA) (g : WG) (wb : WGN) : WGN := fun D ys τ n => wi τ n fun ds τ1 n1 => ∃ I : Nat → List DV → ST → Int → Prop, I 0 ys τ1 n1 ∧
  (∀ i d ys τ n, ds[i]? = some d → I i ys τ n → g d τ fun τ1 => wb { D with nx := I (i + 1), ct := I (i + 1), bk := D.nx } ys τ1 n) ∧ ∀ ys τ n, I ds.length ys τ n → D.nx ys τ n
section
variable {K : PySem.W.Frag} {W : Wc} {X : Cx} {e : Expr} {we : WE} {wi : WA} {wr : WA} {g : WG} {ws : WS} {wg wt : WGN} {st : Stmt} {rest : List Stmt} {pos yp : Pos} {tg : Expr} {Γ Γ' : List Gh}
theorem LkG.more {D' : GWEnds} {D : GEnds} (l : LkG K W Γ D' D) (h : ∀ g ∈ Γ, g ∈ Γ') : LkG K W Γ' D' D :=
  ⟨fun σ H τ n O Γ2 us ys h2 => l.nx σ H τ n O Γ2 us ys fun g hg => h2 g (h g hg), fun σ H τ n O Γ2 us ys h2 => l.bk σ H τ n O Γ2 us ys fun g hg => h2 g (h g hg), fun σ H τ n O Γ2 us ys h2 => l.ct σ H τ n O Γ2 us ys fun g hg => h2 g (h g hg)⟩
theorem GS.imp {t t' : TGn} (h : GS X st t) (i : ∀ D us σ H, t' D us σ H → t D us σ H) : GS X st t' :=
  ⟨fun A S ip R n us s₀ c fs K J gd lv s σ H D gc hn k I q => h.run A S ip R n us s₀ c fs K J gd lv s σ H D gc hn k I (i D us σ H q)⟩
theorem GSs.imp {t t' : TGn} (h : GSs X rest t) (i : ∀ D us σ H, t' D us σ H → t D us σ H) : GSs X rest t' :=
  ⟨fun A S ip R n us s₀ c fs K J gd lv s σ H D gc hn k I q => h.run A S ip R n us s₀ c fs K J gd lv s σ H D gc hn k I (i D us σ H q)⟩
theorem plainG {D : GEnds} {us : List V} {σ : L2.St} {H : Hp} (h : liftGn K W (gPlain ws) D us σ H) : tPlain (liftS K W ws) D us σ H := by
  obtain ⟨Γ, O, τ, n, D', ys, hm, q, hw, l⟩ := h
  exact ⟨Γ, O, τ, n, _, q, hw, fun σ H τ n O q hq => l.nx σ H τ n O Γ us ys (fun _ h => h) hm q hq, fun σ H τ n O q hq => l.bk σ H τ n O Γ us ys (fun _ h => h) hm q hq, fun σ H τ n O q hq => l.ct σ H τ n O Γ us ys (fun _ h => h) hm q hq, fun _ _ _ _ _ h => h.elim⟩
theorem vn_ps (h : PS X st (liftS K W ws)) : GS X st (liftGn K W (gPlain ws)) := GS.imp (gs_ps h) fun _ _ _ _ q => plainG q
theorem vns_ps (h : PSs X rest (liftS K W ws)) : GSs X rest (liftGn K W (gPlain ws)) := GSs.imp (gss_pss h) fun _ _ _ _ q => plainG q
theorem vns_nil : GSs X [] (liftGn K W gNext) := GSs.imp gss_nil fun D us σ H ⟨Γ, O, τ, n, D', ys, hm, q, hw, l⟩ => l.nx σ H τ n O Γ us ys (fun _ h => h) hm q hw
theorem vns_cons (h1 : GS X st (liftGn K W wg)) (h2 : GSs X rest (liftGn K W wt)) : GSs X (st :: rest) (liftGn K W (gSeq wg wt)) := GSs.imp (gss_cons h1 h2) fun D us σ H ⟨Γ, O, τ, n, D', ys, hm, q, hw, l⟩ =>
  ⟨Γ, O, τ, n, _, ys, hm, q, hw, fun σ' H' τ' n' O' Γ' us' ys' hs hm' q' hq => ⟨Γ', O', τ', n', D', ys', hm', q', hq, l.more hs⟩, l.bk, l.ct⟩
theorem vn_yield (he : PE X e (liftE K W we)) (hco : X.env.scope.isCoroutine = false := by rfl) (hi : interactive X.env = false := by rfl) : GS X (.Expr (.Yield (some e) yp) pos) (liftGn K W (gYield we)) := GS.imp (gs_yield he hco hi) fun D us σ H ⟨Γ, O, τ, n, D', ys, hm, q, ⟨hl, hw⟩, l⟩ => by
  have hd : DatL K W.b (ad O ++ W.M0) H us ys := q.gh _ hm
  refine ⟨by rw [hd.length]; exact Nat.lt_of_lt_of_le hl (by rw [sizeLine_eq]; decide), Γ, O, τ, n, _, q, hw, fun v H1 d O1 τ1 n1 q1 d1 hq => ?_⟩
  have hd1 : DatL K W.b (ad O1 ++ W.M0) H1 us ys := q1.gh _ hm
  exact l.nx σ H1 τ1 n1 O1 (.dl (us ++ [v]) (ys ++ [d]) :: Γ) _ _ (fun _ h => List.mem_cons_of_mem _ h) List.mem_cons_self (q1.gcons (DatL.app hd1 (.cons d1 .nil))) hq
theorem vn_for {S : List Nat} {iter : Expr} {body : List Stmt} (hp : PassesOwn (model X.prog X.w) X.A X.env X.xe) (hc : X.calm = true) (hi : PI X tg iter (liftI K W wi)) (hg : PG X tg (liftG K W S g)) (hb : GSs X body (liftGn K W wg))
    (hs : ∀ x, foldedSetIterable iter X.env x = pure x := by intro _; rfl) : GS X (.For tg iter body [] pos) (liftGn K W (gFor wi g wg)) := GS.imp (gs_for hp hc hi hg hb hs) fun D us σ H ⟨Γ, O, τ, n, D', ys, hm, q, hw, l⟩ => by
  refine ⟨Γ, O, τ, n, _, q, hw, fun J H1 gs ds O1 τ1 n1 q1 ⟨G, Y, wk, hG, hY⟩ ⟨I, h0, hst, hd⟩ => ?_⟩
  let Wi : Nat → List V → L2.St → Hp → Prop := fun i us σ H => ∃ Γ' O τ n ys, (∀ g ∈ gs ++ Γ, g ∈ Γ') ∧ Gh.dl us ys ∈ Γ' ∧ Rel K W Γ' O [] τ n σ H ∧ I i ys τ n
  refine ⟨fun i m us σ H => i ≤ ds.length ∧ m = ds.length - i ∧ Wi i us σ H, ⟨_, Nat.zero_le _, rfl, gs ++ Γ, O1, τ1, n1, ys, fun _ h => h, List.mem_append_right _ hm, q1, h0⟩, ?_⟩
  rintro i m us2 σ2 H2 ⟨hi2, rfl, Γ2, O2, τ2, n2, ys2, hs2, hm2, q2, h2⟩
  have hGi : G H2 := hG _ _ H2 fun g hg => q2.gh g (hs2 g (List.mem_append_left _ hg))
  by_cases hlt : i < ds.length
  · refine .inr ⟨wk.goes i H2 hlt hGi, fun us' σ' H' => Wi (i + 1) us' σ' H', fun us' σ' H' h => ⟨_, by omega, by omega, rfl, h⟩, fun x H3 hy => ?_⟩
    obtain ⟨ex, d, hdd, dd⟩ := hY _ _ H2 i x H3 (fun g hg => q2.gh g (hs2 g (List.mem_append_left _ hg))) q2.al hlt (wk.yields i H2 x H3 hlt hGi hy)
    refine ⟨Γ2, O2, τ2, n2, d, _, q2.ex ex, dd, hst i d ys2 τ2 n2 hdd h2, fun σ' O' τ' _ q' hq' => ?_⟩
    refine ⟨Γ2, O', τ', n2, _, ys2, hm2, q', hq', ?_⟩
    have sub : ∀ {Γ3 : List Gh}, (∀ g ∈ Γ2, g ∈ Γ3) → ∀ g ∈ gs ++ Γ, g ∈ Γ3 := fun h g hg => h g (hs2 g hg)
    exact ⟨fun σ H τ n O Γ3 us ys h3 m3 q h => ⟨Γ3, O, τ, n, ys, sub h3, m3, q, h⟩, fun σ H τ n O Γ3 us ys h3 m3 q h => l.nx _ _ _ _ _ Γ3 _ _ (fun g hg => sub h3 g (List.mem_append_right _ hg)) m3 q h, fun σ H τ n O Γ3 us ys h3 m3 q h => ⟨Γ3, O, τ, n, ys, sub h3, m3, q, h⟩⟩
  · have e : i = ds.length := by omega
    subst e
    exact .inl ⟨wk.stops H2 hGi, l.nx _ _ _ _ _ Γ2 _ _ (fun g hg => hs2 g (List.mem_append_right _ hg)) hm2 q2 (hd _ _ _ h2)⟩
end
end VF
/-! ## A generator def by its body; list(g(..)), by data -/
namespace VF
open PySem PySem.Spec PyProof.Rows L2
/-- what a generator def is told: what is out in the end -/
abbrev GSp := List DV → Int → (List DV → Int → Prop) → XV → Prop
def liftSpGn (K : PySem.W.Frag) (Cs : Cf → Prop) (sp : GSp) : SpG := fun vs H Q E => ∃ (C : Cf) (M : List Addr) (n : Int) (ds : List DV) (Q' : List DV → Int → Prop) (E' : XV), Cs C ∧ C.b ∈ M ∧ AlN M H ∧ C.B H n ∧ LamX.Tabs C.T H ∧ DatL K C.b M H vs ds ∧ sp ds n Q' E' ∧
  (∀ us H' ys n', Post C M H H' n' → DatL K C.b M H' us ys → Q' ys n' → Q us H') ∧
  (∀ c ns ws es dd H' n', Post C M H H' n' → H' dd = some (.xd (ns.zip ws)) → ns.length = ws.length → DatL K C.b M H' ws es → E' c ns es n' → E (.ref (He.ga K c)) (some dd) H')
section
variable {K : PySem.W.Frag} {W : Wc} {X : Cx} {e : Expr} {wr : WA} {Cs : Cf → Prop} {sp : GSp} {E' : XV} {E : XK}
theorem v_okG {P : Program} {w : World} {mg : Str → Option Value} {base : Heap} {x qual : Str} {params : Arguments} {body : List Stmt} {scope : Scope} {dvs : List V} {kws : List (Str × V)} {f : Addr} {fd : FuncData} {N ps : List Str} {k : Nat}
    (F : FunD K x qual params body scope dvs kws f fd) (S : GScope N ps scope) (hN : N.length < 1000000) (hp : ps.length ≤ N.length) (hlen : ∀ ds n Q E, sp ds n Q E → ds.length = ps.length)
    (hbody : ∀ (cdv : Value) (A : Around) (outer : List Env) (s : Shared) (H : Hp) (W : Wc) (ds : List DV) (n : Int) (Q' : List DV → Int → Prop) (pn : List (Addr × Obj)), Cs W.toCf → ELink K W → Room k (A.deeper (envOfC qual scope s.heap.objs.size f cdv)) → sp ds n Q' W.E' →
      ∃ wd, GSs (gcxOf P w K mg base N qual scope f cdv A outer s H W.E pn) body (liftGn K W wd) ∧ wd { nx := fun ys _ n => Q' ys n } [] (startT N ds) n) : GFn P w K mg base (k + 1) f fd ps (liftSpGn K Cs sp) := by
  refine F.okG S (fun vs H Q E h => ?_) fun cdv A outer s H vs Q E pn hr h => ?_
  · obtain ⟨C, M, n, ds, Q', E', hC, hb, al, bag, tab, hd, hsp, hQ, hE⟩ := h
    rw [hd.length]
    exact hlen _ _ _ _ hsp
  · obtain ⟨C, M, n, ds, Q', E', hC, hb, al, bag, tab, hd, hsp, hQ, hE⟩ := h
    have hl := hlen _ _ _ _ hsp
    have hv : vs.length = ps.length := by rw [hd.length]; exact hl
    obtain ⟨wd, h1, h2⟩ := hbody cdv A outer s H ⟨C, [C.b], M, H, hb, List.mem_singleton.mpr rfl, E', E⟩ ds n Q' pn hC (fun c ns ws es dd H' n' ey al' bag' tab' h1 h2 h3 h4 => hE c ns ws es dd H' n' ⟨ey, al', bag', tab'⟩ h1 h2 h3 h4) hr hsp
    refine ⟨_, h1, [.dl [] []], [], _, n, _, [], List.mem_singleton.mpr rfl, (start_rel hN (by omega) hb al bag tab hd E' E).gcons .nil, h2, fun σ H' τ n' O Γ' us ys _ hm q hq => ?_, fun _ _ _ _ _ _ _ _ _ _ _ h => h.elim, fun _ _ _ _ _ _ _ _ _ _ _ h => h.elim⟩
    have hd' : DatL K C.b (ad O ++ M) H' us ys := q.gh _ hm
    exact hQ us H' ys n' ⟨q.ext, fun x hx => q.al x (List.mem_append_right _ hx), q.bag, q.tab⟩ (DatL.sub (fun x hx => List.mem_append_right _ hx) hd') hq
/-- only exceptions of these classes -/
def ER (K : PySem.W.Frag) (cs : List Str) (E : XK) : XK := fun cls d H => E cls d H ∧ ∃ c ∈ cs, cls = .ref (He.ga K c)
def E1R (cs : List Str) (E' : XV) : XV := fun c ns es n => c ∈ cs ∧ E' c ns es n
theorem elinkR {cs : List Str} (h : ELinkG K W E' E) : ELinkG K W (E1R cs E') (ER K cs E) := fun c ns ws es dd H' n' a1 a2 a3 a4 a5 a6 a7 a8 => ⟨h c ns ws es dd H' n' a1 a2 a3 a4 a5 a6 a7 a8.2, c, a8.1, rfl⟩
theorem noStopR {cs : List Str} (h : ∀ c ∈ cs, PySem.W.subIn K (.ref (He.ga K c)) (.type "StopIteration") = some false) : NoStop K (ER K cs E) := fun cls d H hx => by
  obtain ⟨_, c, hc, e⟩ := hx
  rw [e]
  exact h c hc
theorem sp_callG (hC : Cs W.toCf) (hE : ELinkG K W E' E) {Γ : List Gh} {O : Om} {τ : ST} {n : Int} {σ : L2.St} {H : Hp} {vs : List V} {ds : List DV} {Q : List V → Hp → Prop} {Q' : List DV → ST → Int → Prop} (q : Rel K W Γ O [] τ n σ H) (hd : DatL K W.b (ad O ++ W.M0) H vs ds) (hw : sp ds n (fun ys n2 => Q' ys τ n2) E')
    (k : ∀ us H' ys O' τ' n', Rel K W Γ O' [] τ' n' σ H' → DatL K W.b (ad O' ++ W.M0) H' us ys → Q' ys τ' n' → Q us H') : liftSpGn K Cs sp vs H Q E := by
  refine ⟨W.toCf, ad O ++ W.M0, n, ds, _, E', hC, List.mem_append_right _ W.bm, q.al, q.bag, q.tab, hd, hw, fun us H' ys n' p dd hq => k us H' ys O τ n' (post_rel q p) dd hq, fun c ns ws es dd H' n' p h1 h2 h3 h4 => ?_⟩
  exact hE c ns ws es dd H' n' (q.ext.tr (p.ey.sub fun x hx => by rw [List.mem_singleton.mp hx]; exact W.bd)) (fun x hx => p.al x (sub_M0 x hx)) p.bag p.tab h1 h2 (DatL.sub sub_M0 h3) h4
/-- list(g(..)) -/
def wListG (sp : GSp) (dds : List DV) (E' : XV) (wr : WA) : WE := fun τ n Q => wr τ n fun ds τ1 n1 => sp (ds ++ dds) n1 (fun ys n2 => Q (.lst ys) τ1 n2) E'
theorem new_list {Γ : List Gh} {O : Om} {τ : ST} {n : Int} {σ : L2.St} {H : Hp} {us : List V} {ys : List DV} {p : Addr} (q : Rel K W Γ O [] τ n σ H) (hd : DatL K W.b (ad O ++ W.M0) H us ys) (hp : H p = none) :
    Rel K W Γ O [] τ n σ (upd H p (.lst us)) ∧ Dat K W.b (ad O ++ W.M0) (upd H p (.lst us)) (.ref p) (.lst ys) := by
  have ex : BF.Ex [] H (upd H p (.lst us)) := fun x o _ h => by
    rw [upd_ne (fun z => by rw [z, hp] at h; cases h)]
    exact h
  exact ⟨q.ex ex, .lst (LsM.of upd_same (q.newO hp)) (DatL.ey (Ey.ex0 ex) hd)⟩
theorem ve_listG {dvs : List V} {dds : List DV} (hC : Cs W.toCf) (hE : ELinkG K W E' E) (h : PE X e (tListG (tCallG (liftSpGn K Cs sp) dvs E (liftA K W wr)))) (hdv : ∀ b M H, DatL K b M H dvs dds) : PE X e (liftE K W (wListG sp dds E' wr)) := by
  refine BF.PE.imp h fun σ H Q ⟨Γ, O, τ, n, Q', q, hw, k⟩ => ?_
  refine ⟨Γ, O, τ, n, _, q, hw, fun vs H1 ds O1 τ1 n1 q1 d1 hw1 => ?_⟩
  refine sp_callG (Q' := fun ys τ n2 => Q' (.lst ys) τ n2) hC hE q1 (DatL.app d1 (hdv _ _ _)) hw1 fun us H' ys O' τ' n' q' dd hq p hp => ?_
  obtain ⟨q3, d3⟩ := new_list q' dd hp
  exact k _ _ _ O' τ' n' q3 d3 hq
/-- list(g(.., k = v)): one keyword -/
def wListG1 (n0 m : Nat) (sp : GSp) (gd : List DV → List DV → List DV) (E' : XV) (wr wk : WA) : WE := fun τ n Q => wr τ n fun ds τ1 n1 => ds.length = n0 ∧ wk τ1 n1 fun es τ2 n2 => es.length = m ∧ sp (gd ds es) n2 (fun ys n3 => Q (.lst ys) τ2 n3) E'
theorem ve_listG1 {n0 m : Nat} {gV : List V → List V → List V} {gd : List DV → List DV → List DV} (hC : Cs W.toCf) (hE : ELinkG K W E' E) {wk : WA} (h : PE X e (tListG (tCallGN n0 m (liftSpGn K Cs sp) gV E (liftA K W wr) (liftA K W wk))))
    (hg : ∀ b M H vs ds zs es, DatL K b M H vs ds → DatL K b M H zs es → DatL K b M H (gV vs zs) (gd ds es)) : PE X e (liftE K W (wListG1 n0 m sp gd E' wr wk)) := by
  refine BF.PE.imp h fun σ H Q ⟨Γ, O, τ, n, Q', q, hw, k⟩ => ?_
  refine ⟨Γ, O, τ, n, _, q, hw, fun vs H1 ds O1 τ1 n1 q1 d1 ⟨l1, hw1⟩ => ?_⟩
  refine ⟨.dl vs ds :: Γ, O1, τ1, n1, _, q1.gcons d1, hw1, fun zs H2 es O2 τ2 n2 q2 d2 ⟨l2, hw2⟩ => ?_⟩
  have d1' : DatL K W.b (ad O2 ++ W.M0) H2 vs ds := q2.gh _ List.mem_cons_self
  refine ⟨by rw [d1'.length]; exact l1, by rw [d2.length]; exact l2, ?_⟩
  refine sp_callG (Q' := fun ys τ n2 => Q' (.lst ys) τ n2) hC hE q2.tail (hg _ _ _ _ _ _ _ d1' d2) hw2 fun us H' ys O' τ' n' q' dd hq p hp => ?_
  obtain ⟨q3, d3⟩ := new_list q' dd hp
  exact k _ _ _ O' τ' n' q3 d3 hq
end
section
variable {wr wk : WA} {sp : GSp} {E' : XV} {τ : ST} {n : Int} {Q : DV → ST → Int → Prop} {D : GWEnds} {ys : List DV} {ws : WS} {wg wt : WGN} {we : WE} {wi : WA} {g : WG}
theorem y_listG {dds : List DV} (k : wr τ n fun ds τ1 n1 => sp (ds ++ dds) n1 (fun ys n2 => Q (.lst ys) τ1 n2) E') : wListG sp dds E' wr τ n Q := k
theorem y_listG1 {n0 m : Nat} {gd : List DV → List DV → List DV} (k : wr τ n fun ds τ1 n1 => ds.length = n0 ∧ wk τ1 n1 fun es τ2 n2 => es.length = m ∧ sp (gd ds es) n2 (fun ys n3 => Q (.lst ys) τ2 n3) E') : wListG1 n0 m sp gd E' wr wk τ n Q := k
theorem y_lenIs {ds : List DV} {k : Nat} {R : Prop} (h : ds.length = k) (q : R) : ds.length = k ∧ R := ⟨h, q⟩
theorem y_gPlain (k : ws { nx := D.nx ys, rt := fun _ _ => False, bk := D.bk ys, ct := D.ct ys } τ n) : gPlain ws D ys τ n := k
theorem y_gSeq (k : wg { D with nx := wt D } ys τ n) : gSeq wg wt D ys τ n := k
theorem y_gNext (k : D.nx ys τ n) : gNext D ys τ n := k
theorem y_gYield (l : ys.length < 1000000) (k : we τ n fun d τ1 n1 => D.nx (ys ++ [d]) τ1 n1) : gYield we D ys τ n := ⟨l, k⟩
theorem y_gFor (k : wi τ n fun ds τ1 n1 => ∃ I : Nat → List DV → ST → Int → Prop, I 0 ys τ1 n1 ∧ (∀ i d ys τ n, ds[i]? = some d → I i ys τ n → g d τ fun τ1 => wg { D with nx := I (i + 1), ct := I (i + 1), bk := D.nx } ys τ1 n) ∧ ∀ ys τ n, I ds.length ys τ n → D.nx ys τ n) : gFor wi g wg D ys τ n := k
end
end VF
/-! ## a list several times -/
namespace VF
open PySem PySem.Spec PyProof.Rows L2
def wRepL : DV → DV → DP → Prop
  | .lst xs, .int k, Q => -1000000000000 ≤ k ∧ k ≤ 1000000000000 ∧ xs.length * k.toNat ≤ 1000000 ∧ Q (.lst (List.replicate k.toNat xs).flatten)
  | _, _, _ => False
section
variable {K : PySem.W.Frag} {W : Wc} {X : Cx} {e : Expr} {wa wb : WE} {P : DP}
theorem d_repL : DOp K rRep wRepL := fun b M H x y d f Q' Q al hx hy hw k => by
  cases hx with
  | @lst _ vs0 _ a1 a2 =>
    cases hy with
    | int i =>
      obtain ⟨h1, h2, h3, hq⟩ := hw
      refine ⟨_, i, _, rfl, rfl, a1.1, by omega, by omega, by rw [a2.length]; exact Nat.le_trans h3 (by rw [sizeLine_eq]; decide), fun p hp => ?_⟩
      have ex : BF.Ex [] H (upd H p (.lst (List.replicate i.toNat vs0).flatten)) := BF.Ex.new hp
      exact k _ _ _ ex (.lst (LsM.of upd_same (al.out hp)) (DatL.ey (Ey.ex0 ex) (rep_dat a2 _))) hq
    | _ => exact hw.elim
  | _ => exact hw.elim
def wRepO (wa wb : WE) : WA := fun τ n Q => wa τ n fun d τ1 n1 => wb τ1 n1 fun f τ2 n2 => ∃ xs k, d = .lst xs ∧ f = .int k ∧ -1000000000000 ≤ k ∧ k ≤ 1000000000000 ∧ xs.length * k.toNat ≤ 1000000 ∧ Q (List.replicate k.toNat xs).flatten τ2 n2
theorem vo_rep (h : PE X e (tOp rRep (liftE K W wa) (liftE K W wb))) : PE X e (liftO K W (wRepO wa wb)) := BF.PE.imp h fun σ H Q ⟨Γ, O, τ, n, Q', q, hw, k⟩ => by
  refine ⟨Γ, O, τ, n, _, q, hw, fun v H1 d O1 τ1 n1 q1 d1 hw1 => ?_⟩
  refine ⟨.d v d :: Γ, O1, τ1, n1, _, q1.gcons d1, hw1, fun u H2 f O2 τ2 n2 q2 d2 ⟨xs, i, ed, ef, h1, h2, h3, hq⟩ => ?_⟩
  have d3 := q2.head
  subst ed ef
  cases d2
  cases d3 with
  | @lst _ vs0 _ a1 a2 =>
    refine ⟨_, i, _, rfl, rfl, a1.1, by omega, by omega, by rw [a2.length]; exact Nat.le_trans h3 (by rw [sizeLine_eq]; decide), fun p hp => ?_⟩
    have ex : BF.Ex [] H2 (upd H2 p (.lst (List.replicate i.toNat vs0).flatten)) := BF.Ex.new hp
    exact k p _ _ _ O2 τ2 n2 (q2.tail.apart hp ex) upd_same (q2.newO hp) (q2.ownC hp) (DatL.ey (Ey.ex0 ex) (DatL.fresh hp (rep_dat a2 _))) hq
/-- tuple(l) of a slot's own list, which stays so -/
def wTupV (i : Nat) : WE := fun τ n Q => ∃ xs, τ[i]? = some (some (.own xs)) ∧ Q (.tup xs) τ n
theorem ve_tupV {i : Nat} (h : PE X e (tCB (BF.rTupLT K) (tCons (tVar i) tNil))) : PE X e (liftE K W (wTupV i)) := BF.PE.imp h fun σ H Q ⟨Γ, O, τ, n, Q', q, ⟨xs, hs, hw⟩, k⟩ => by
  obtain ⟨v, hv, a, vs, e1, e2, e3, e4⟩ := q.slot i _ hs
  subst e1
  exact ⟨_, hv, _, _, rfl, .inl ⟨SqL.of e3, fun p hp => k _ _ _ O τ n (q.ex (new_tup q.al hp e4).1) (new_tup q.al hp e4).2 hw⟩⟩
theorem y_tupV {τ : ST} {n : Int} {i : Nat} {xs : List DV} {Q : DV → ST → Int → Prop} (h : τ[i]? = some (some (.own xs))) (k : Q (.tup xs) τ n) : wTupV i τ n Q := ⟨xs, h, k⟩
theorem ve_call0 {sp : DSp} {dvs : List V} {dds : List DV} {E' : XV} {E : XK} {Cs : Cf → Prop} (hC : Cs W.toCf) (hE : ELinkG K W E' E) (h : PE X e (tCall (liftSp K Cs sp) dvs E tNil)) (hdv : ∀ b M H, DatL K b M H dvs dds) : PE X e (liftE K W (wCall sp dds E' wNil)) :=
  BF.PE.imp h fun σ H Q ⟨Γ, O, τ, n, Q', q, hw, k⟩ => sp_call hC hE q (hdv _ _ _) hw k
theorem y_ixO3 {τ : ST} {i : Nat} {xs : List DV} {z : Int} {x : DV} {R : DV → Prop} (h : τ[i]? = some (some (.own xs))) (a : atI xs z = some x) (k : R x) : ∃ z' ys x, DV.int z = .int z' ∧ (τ[i]? = some (some (.own ys)) ∨ τ[i]? = some (some (.d (.lst ys))) ∨ τ[i]? = some (some (.d (.tup ys)))) ∧ atI ys z' = some x ∧ R x := ⟨z, xs, x, rfl, .inl h, a, k⟩
theorem ixN_of {k : Nat} {z : Int} (h0 : 0 ≤ z) (h1 : z < k) : ixN k z = some z.toNat := by
  unfold ixN
  rw [if_pos h0, if_pos h1]
theorem y_repL {xs : List DV} {k : Int} (h1 : -1000000000000 ≤ k) (h2 : k ≤ 1000000000000) (h3 : xs.length * k.toNat ≤ 1000000) (q : P (.lst (List.replicate k.toNat xs).flatten)) : wRepL (.lst xs) (.int k) P := ⟨h1, h2, h3, q⟩
theorem y_repO {τ : ST} {n : Int} {Q : List DV → ST → Int → Prop} (k : wa τ n fun d τ1 n1 => wb τ1 n1 fun f τ2 n2 => ∃ xs k, d = .lst xs ∧ f = .int k ∧ -1000000000000 ≤ k ∧ k ≤ 1000000000000 ∧ xs.length * k.toNat ≤ 1000000 ∧ Q (List.replicate k.toNat xs).flatten τ2 n2) : wRepO wa wb τ n Q := k
theorem y_repO2 {xs : List DV} {i : Int} {R : List DV → Int → Prop} (h1 : -1000000000000 ≤ i) (h2 : i ≤ 1000000000000) (h3 : xs.length * i.toNat ≤ 1000000) (q : R xs i) : ∃ ys k, DV.lst xs = .lst ys ∧ DV.int i = .int k ∧ -1000000000000 ≤ k ∧ k ≤ 1000000000000 ∧ ys.length * k.toNat ≤ 1000000 ∧ R ys k := ⟨xs, i, rfl, rfl, h1, h2, h3, q⟩
theorem rep1 {x : DV} : ∀ n : Nat, (List.replicate n [x]).flatten = List.replicate n x
  | 0 => rfl
  | n + 1 => by rw [List.replicate_succ, List.flatten_cons, rep1 n]; rfl
end
end VF
/-! ## keywords, by data -/
namespace VF
open PySem PySem.Spec PyProof.Rows L2
section
variable {K : PySem.W.Frag} {W : Wc} {X : Cx} {e : Expr} {kws : List Keyword} {we : WE} {wr : WA} {nm : Option Str} {kpos : Pos}
theorem PK.imp {t t' : TA} (h : PK X kws t) (i : ∀ σ H Q, t' σ H Q → t σ H Q) : PK X kws t' := ⟨fun p pins s σ H Q I q => h.run p pins s σ H Q I (i σ H Q q)⟩
theorem vk_nil : PK X [] (liftA K W wNil) := PK.imp pk_nil fun σ H Q ⟨Γ, O, τ, n, Q', q, hw, k⟩ => k [] H [] O τ n q .nil hw
theorem vk_cons (he : PE X e (liftE K W we)) (hr : PK X kws (liftA K W wr)) : PK X (⟨nm, e, kpos⟩ :: kws) (liftA K W (wCons we wr)) := by
  refine PK.imp (pk_cons he hr) fun σ H Q ⟨Γ, O, τ, n, Q', q, hw, k⟩ => ?_
  refine ⟨Γ, O, τ, n, _, q, hw, fun v H1 d O1 τ1 n1 q1 d1 hw1 => ?_⟩
  refine ⟨.d v d :: Γ, O1, τ1, n1, _, q1.gcons d1, hw1, fun vs H2 ds O2 τ2 n2 q2 d2 hw2 => ?_⟩
  exact k (v :: vs) H2 (d :: ds) O2 τ2 n2 q2.tail (.cons q2.head d2) hw2
/-- one value; two values, the second first -/
def swp2 {α : Type} : List α → List α
  | [a, b] => [b, a]
  | l => l
theorem swp2_vals {zs : List V} {ws : List Value} (h : Vals zs ws) : Vals (swp2 zs) (swp2 ws) := by
  cases h with
  | nil => exact .nil
  | cons a h => cases h with
    | nil => exact .cons a .nil
    | cons b h => cases h with
      | nil => exact .cons b (.cons a .nil)
      | cons c h => exact .cons a (.cons b (.cons c h))
theorem swp2_dat : ∀ b M H vs ds, DatL K b M H vs ds → DatL K b M H (swp2 vs) (swp2 ds) := fun b M H vs ds h => by
  cases h with
  | nil => exact .nil
  | cons a h => cases h with
    | nil => exact .cons a .nil
    | cons b h => cases h with
      | nil => exact .cons b (.cons a .nil)
      | cons c h => exact .cons a (.cons b (.cons c h))
end
end VF
/-! ## C(k = v, ..) of an own class whose __init__ is told by data -/
namespace VF
open PySem PySem.Spec PyProof.Rows L2
section
variable {K : PySem.W.Frag} {W : Wc} {X : Cx} {e : Expr} {wk : WA} {Cs : Cf → Prop}
def wMakeK (cl : Str) (m : Nat) (gd : List DV → List DV) (sp : ISp) (E' : XV) (wk : WA) : WE := fun τ n Q => wk τ n fun es τ1 n1 => es.length = m ∧ sp (gd es) n1 (fun ns fs n2 => Q (.ins cl ns fs) τ1 n2) E'
theorem ve_makeK {cl : Str} {m : Nat} {sp : ISp} {gV : List V → List V} {gd : List DV → List DV} {E' : XV} {E : XK} (hC : Cs W.toCf) (hE : ELinkG K W E' E) (h : PE X e (tMakeK (He.ga K cl) 0 m (liftSpI K Cs cl sp) (fun vs zs => vs ++ gV zs) E tNil (liftA K W wk)))
    (hg : ∀ b M H vs ds, DatL K b M H vs ds → DatL K b M H (gV vs) (gd ds)) : PE X e (liftE K W (wMakeK cl m gd sp E' wk)) := by
  refine BF.PE.imp h fun σ H Q ⟨Γ, O, τ, n, Q', q, hw, k⟩ => ?_
  refine ⟨Γ, O, τ, n, _, q, hw, fun zs H1 es O1 τ1 n1 q1 d1 ⟨lm, hw1⟩ => ⟨rfl, by rw [d1.length]; exact lm, fun x dx hx0 hd0 hne => ?_⟩⟩
  have xm : x ∉ ad O1 ++ W.M0 := q1.al.out hx0
  have ex : BF.Ex [] H1 (upd (upd H1 dx (.own x)) x (.ins (He.ga K cl) dx [])) := fun y o _ h => by
    rw [upd_ne (fun z => by rw [z, hx0] at h; cases h), upd_ne (fun z => by rw [z, hd0] at h; cases h)]
    exact h
  have hx : (upd (upd H1 dx (.own x)) x (.ins (He.ga K cl) dx [])) x = some (.ins (He.ga K cl) dx []) := upd_same
  have q2 := q1.ex ex
  refine ⟨W.toCf, ad O1 ++ W.M0, n1, gd es, _, E', x, dx, gV zs, rfl, hC, List.mem_append_right _ W.bm, xm, fun z => ?_, q2.al, q2.bag, q2.tab, DatL.ey (Ey.ex0 ex) (DatL.fresh hx0 (hg _ _ _ _ _ d1)), hx, hw1, fun H3 dx' ws ns fs n' ey al' bag' tab' h1 h2 h3 hq => ⟨rfl, ?_⟩, fun c ns ws fs dd H3 n' ey al' bag' tab' h1 h2 h3 h4 => ?_⟩
  · obtain ⟨o, ho, _⟩ := W.Ba q1.bag x z
    rw [hx0] at ho
    cases ho
  · exact k (.ref x) H3 _ O1 τ1 n' (q1.step (ey_new hx0 ex ey) bag' tab' al') (.ins h1 xm h2 h3) hq
  · have e1 := ey_new hx0 ex ey
    exact hE c ns ws fs dd H3 n' (q1.ext.tr (e1.sub fun y hy => by rw [List.mem_singleton.mp hy]; exact W.bd)) (fun y hy => al' y (sub_M0 y hy)) bag' tab' h1 h2 (DatL.sub sub_M0 h3) h4
theorem y_makeK {cl : Str} {m : Nat} {gd : List DV → List DV} {sp : ISp} {E' : XV} {τ : ST} {n : Int} {Q : DV → ST → Int → Prop} (k : wk τ n fun es τ1 n1 => es.length = m ∧ sp (gd es) n1 (fun ns fs n2 => Q (.ins cl ns fs) τ1 n2) E') : wMakeK cl m gd sp E' wk τ n Q := k
theorem y_lenS {x : Str} {P : DP} (l : x.length ≤ 1000000) (k : P (.int (x.length : Int))) : wLen [.str x] P := ⟨l, k⟩
/-- x, y, z = a, b, c -/
def wPar3 (i j l : Nat) (wr : WA) : WS := fun D τ n => wr τ n fun ds τ1 n1 => ∃ d e f, ds = [d, e, f] ∧ D.nx (((τ1.set i (some (.d d))).set j (some (.d e))).set l (some (.d f))) n1
theorem vs_par3 {i j l : Nat} {st : Stmt} {wr : WA} (h : PS X st (tPar3 i j l (liftA K W wr))) (i6 : i < 1000000 := by decide) (j6 : j < 1000000 := by decide) (l6 : l < 1000000 := by decide) : PS X st (liftS K W (wPar3 i j l wr)) := BF.PS.imp' h fun D σ H ⟨Γ, O, τ, n, D', q, hw, lk⟩ =>
  ⟨Γ, O, τ, n, _, q, hw, fun vs H1 ds O1 τ1 n1 q1 d1 ⟨d, e, f, ed, hq⟩ => by
    subst ed
    cases d1 with
    | cons h1 h2 =>
      cases h2 with
      | cons h2 h3 =>
        cases h3 with
        | cons h3 h4 =>
          cases h4
          exact ⟨_, _, _, rfl, lk.nx _ H1 _ n1 _ (((q1.put i6 h1).put j6 (Dat.sub f_sub h2)).put l6 (Dat.sub f_sub (Dat.sub f_sub h3))) hq⟩⟩
theorem y_par3 {i j l : Nat} {wr : WA} {D : WEnds} {τ : ST} {n : Int} (k : wr τ n fun ds τ1 n1 => ∃ d e f, ds = [d, e, f] ∧ Nx D (((τ1.set i (some (.d d))).set j (some (.d e))).set l (some (.d f))) n1) : wPar3 i j l wr D τ n := k
theorem y_par3b {d e f : DV} {R : DV → DV → DV → Prop} (k : R d e f) : ∃ d' e' f', [d, e, f] = [d', e', f'] ∧ R d' e' f' := ⟨d, e, f, rfl, k⟩
end
end VF
/-! macros: vy (vx, and x += ..) -/
local macro_rules | `(tactic| walk_at "v6") => `(tactic| first | ((with_reducible apply VF.y_aug); (with_unfolding_all rfl)) | ((with_reducible apply VF.y_aug2); (with_unfolding_all rfl)) | ((with_reducible apply VF.y_tupV); (with_unfolding_all rfl)))
local macro_rules | `(tactic| walk_at "v7") => `(tactic| (with_reducible first | refine' VF.y_strO ?_ | refine' VF.y_ownX ?_ | refine' VF.y_ownI ?_ | refine' VF.y_own1 ?_ | refine' VF.y_boolO ?_ | refine' VF.y_fmtD ?_ | refine' VF.y_js ?_ | refine' VF.y_js0 ?_ | refine' VF.y_repO ?_ | refine' VF.y_gPlain ?_ | refine' VF.y_gSeq ?_ | refine' VF.y_gNext ?_ | refine' VF.y_gFor ?_ | refine' VF.y_listG ?_ | refine' VF.y_listG1 ?_ | refine' VF.y_par3 ?_ | refine' VF.y_par3b ?_ | refine' VF.y_makeK ?_ | refine' VF.y_make ?_))
local macro_rules | `(tactic| walk_at "vy") => `(tactic| repeat (first | ((with_reducible first | refine' VF.y_seq ?_ | refine' VF.y_next ?_ | refine' VF.y_set ?_ | refine' VF.y_setO ?_ | refine' VF.y_asg ?_ | refine' VF.y_par ?_ | refine' VF.y_par2 ?_ | refine' VF.y_parO1 ?_ | refine' VF.y_parO2 ?_ | refine' VF.y_ret ?_ | refine' VF.y_retN ?_ | refine' VF.y_ifS ?_ | refine' VF.y_drop ?_ | refine' VF.y_brk ?_ | refine' VF.y_cnt ?_ | refine' VF.y_setI ?_ | refine' VF.y_for ?_ | refine' VF.y_raise ?_ | refine' VF.y_c ?_ | refine' VF.y_op ?_ | refine' VF.y_un ?_ | refine' VF.y_nil ?_ | refine' VF.y_cons ?_ | refine' VF.y_cb ?_ | refine' VF.y_tup ?_ | refine' VF.y_lst ?_ | refine' VF.y_lstO ?_ | refine' VF.y_B ?_ | refine' VF.y_bl ?_ | refine' VF.y_and ?_ | refine' VF.y_or ?_ | refine' VF.y_not ?_ | refine' VF.y_andV ?_ | refine' VF.y_orV ?_ | refine' VF.y_notV ?_ | refine' VF.y_if ?_ | refine' VF.y_sl ?_ | refine' VF.y_P0 ?_ | refine' VF.y_P1 ?_ | refine' VF.y_int ?_ | refine' VF.y_chain ?_ | refine' VF.y_call ?_ | refine' VF.y_meth ?_ | refine' VF.y_fld ?_ | refine' VF.y_OL ?_ | refine' VF.y_lc ?_ | refine' VF.y_yes ?_ | refine' VF.y_name ?_ | refine' VF.y_gnil ?_ | refine' VF.y_gcons ?_ | refine' VF.y_rng1 ?_ | refine' VF.y_zip ?_ | refine' VF.y_zipL ?_ | refine' VF.y_iL ?_ | refine' VF.y_iT ?_ | refine' VF.y_tru (b := true) ?_ | refine' VF.y_listO ?_ | refine' VF.y_listO1 ?_ | refine' VF.y_listO2 ?_ | refine' VF.y_own2 ?_ | refine' VF.y_own2N ?_ | refine' VF.y_own2b ?_ | refine' VF.y_addI ?_ | refine' VF.y_I0 ?_ | refine' VF.y_IB ?_ | refine' VF.y_neg ?_ | refine' VF.y_slL ?_ | refine' VF.y_slT ?_ | refine' VF.y_lenL ?_ | refine' VF.y_lenT ?_ | refine' VF.y_listL ?_ | refine' VF.y_listT ?_ | refine' VF.y_tupL ?_ | refine' VF.y_tupT ?_ | refine' VF.y_intI ?_ | refine' VF.y_abs ?_ | refine' VF.y_max ?_ | refine' VF.y_min ?_ | refine' VF.y_eqI ?_ | refine' VF.y_neI ?_ | refine' VF.y_eqS ?_ | refine' VF.y_neS ?_ | refine' VF.y_eqB ?_ | refine' VF.y_neB ?_ | refine' BF.x_iteY ?_ | refine' BF.x_iteNo ?_)) | (first | ((with_reducible apply VF.y_nx); ((first | (simp only [List.set_cons_succ, List.set_cons_zero]; done) | (simp only [List.set_cons_succ, List.set_cons_zero]; rfl) | rfl))) | ((with_reducible apply VF.y_nxG); ((first | (simp only [List.set_cons_succ, List.set_cons_zero]; done) | (simp only [List.set_cons_succ, List.set_cons_zero]; rfl) | rfl)))) | (first | ((with_reducible apply VF.y_var); (with_unfolding_all rfl)) | ((with_reducible apply VF.y_varF); (with_unfolding_all rfl)) | ((with_reducible apply VF.y_varO); (with_unfolding_all rfl)) | ((with_reducible apply VF.y_ixL); (with_unfolding_all rfl)) | ((with_reducible apply VF.y_ixT); (with_unfolding_all rfl)) | ((with_reducible apply VF.y_gtup); (with_unfolding_all rfl)) | ((with_reducible apply VF.y_len1); (simp only [List.length_cons, List.length_nil]; omega)) | ((with_reducible apply VF.y_I); ((first | ((with_reducible refine BF.cpow_of ?_ ?_ ?_ ?_) <;> omega) | ((with_reducible refine BF.cmul_of ?_ ?_ ?_ ?_) <;> omega) | ((with_reducible refine BF.cdiv_of ?_ ?_) <;> omega) | (show (0 : Int) < _; omega)))) | ((with_reducible apply VF.y_rng1b); omega; omega) | ((with_reducible apply VF.y_lenO); (with_unfolding_all rfl)) | ((with_reducible apply VF.y_lenD); (with_unfolding_all rfl)) | ((with_reducible apply VF.y_ixVO); (with_unfolding_all rfl)) | ((with_reducible apply VF.y_ixVL); (with_unfolding_all rfl)) | ((with_reducible apply VF.y_app); (with_unfolding_all rfl)) | ((with_reducible apply VF.y_ins); (with_unfolding_all rfl)) | ((with_reducible apply VF.y_setI1); (with_unfolding_all rfl)) | ((with_reducible apply VF.y_fld2); (assumption); (with_unfolding_all rfl)) | ((with_reducible apply VF.y_noOwn); (with_unfolding_all rfl)) | ((with_reducible apply VF.y_wipe); (with_unfolding_all rfl)) | ((with_reducible apply VF.y_acc); (assumption)) | ((with_reducible apply VF.y_tru1); (with_unfolding_all rfl))) | ((with_reducible first | refine' VF.y_iseq' ?_ | refine' VF.y_seqL ?_ | refine' VF.y_seqT ?_ | refine' VF.y_enT ?_ | refine' VF.y_tupZ ?_ | refine' VF.y_lsI ?_ | refine' VF.y_lsT ?_ | refine' VF.y_join ?_ | refine' VF.y_fs ?_ | refine' VF.y_revL ?_ | refine' VF.y_lr1 ?_ | refine' VF.y_lrO ?_ | refine' VF.y_tix ?_ | refine' VF.y_i_non_int ?_ | refine' VF.y_i_non_bool ?_ | refine' VF.y_i_non_str ?_ | refine' VF.y_i_non_list ?_ | refine' VF.y_i_non_tuple ?_ | refine' VF.y_iLT_non ?_ | refine' VF.y_i_bl_int ?_ | refine' VF.y_i_bl_bool ?_ | refine' VF.y_i_bl_str ?_ | refine' VF.y_i_bl_list ?_ | refine' VF.y_i_bl_tuple ?_ | refine' VF.y_iLT_bl ?_ | refine' VF.y_i_int_int ?_ | refine' VF.y_i_int_bool ?_ | refine' VF.y_i_int_str ?_ | refine' VF.y_i_int_list ?_ | refine' VF.y_i_int_tuple ?_ | refine' VF.y_iLT_int ?_ | refine' VF.y_i_str_int ?_ | refine' VF.y_i_str_bool ?_ | refine' VF.y_i_str_str ?_ | refine' VF.y_i_str_list ?_ | refine' VF.y_i_str_tuple ?_ | refine' VF.y_iLT_str ?_ | refine' VF.y_i_lst_int ?_ | refine' VF.y_i_lst_bool ?_ | refine' VF.y_i_lst_str ?_ | refine' VF.y_i_lst_list ?_ | refine' VF.y_i_lst_tuple ?_ | refine' VF.y_iLT_lst ?_ | refine' VF.y_i_tup_int ?_ | refine' VF.y_i_tup_bool ?_ | refine' VF.y_i_tup_str ?_ | refine' VF.y_i_tup_list ?_ | refine' VF.y_i_tup_tuple ?_ | refine' VF.y_iLT_tup ?_)) | ((with_reducible first | refine' VF.y_n_non ?_ | refine' VF.y_n_bl ?_ | refine' VF.y_n_int ?_ | refine' VF.y_n_str ?_ | refine' VF.y_n_lst ?_ | refine' VF.y_n_tup ?_ | refine' VF.y_zipT ?_ | refine' VF.y_opV ?_ | refine' VF.y_rng2 ?_)) | (first | ((with_reducible apply VF.y_rng2b); omega; omega; omega; omega) | ((with_reducible apply VF.y_opV2); (with_unfolding_all rfl))) | (first | ((with_reducible apply VF.y_aug); (with_unfolding_all rfl)) | ((with_reducible apply VF.y_aug2); (with_unfolding_all rfl)) | ((with_reducible apply VF.y_tupV); (with_unfolding_all rfl))) | ((with_reducible first | refine' VF.y_strO ?_ | refine' VF.y_ownX ?_ | refine' VF.y_ownI ?_ | refine' VF.y_own1 ?_ | refine' VF.y_boolO ?_ | refine' VF.y_fmtD ?_ | refine' VF.y_js ?_ | refine' VF.y_js0 ?_ | refine' VF.y_repO ?_ | refine' VF.y_gPlain ?_ | refine' VF.y_gSeq ?_ | refine' VF.y_gNext ?_ | refine' VF.y_gFor ?_ | refine' VF.y_listG ?_ | refine' VF.y_listG1 ?_ | refine' VF.y_par3 ?_ | refine' VF.y_par3b ?_ | refine' VF.y_makeK ?_ | refine' VF.y_make ?_)) | (first | with_reducible refine' BF.x_iteT (by with_unfolding_all rfl) ?_ | with_reducible refine' BF.x_iteF (by with_unfolding_all rfl) ?_ | with_reducible refine' BF.x_iteT (decide_eq_true rfl) ?_)))
/-! ## str(..) of a tuple of ints: some text -/
namespace L2
open PySem PySem.Spec PyProof.Rows
section
variable {prog : Program} {w : World} {A : Around} {E : Value → Shared → Prop} {s : Shared}
theorem str_of_tup {a : Addr} {o : Obj} {items : Array Value} {n : Nat} {ts : List Str} {Q : Value → Shared → Prop} (hu : A.units + 3 < cLine) (ha : s.heap.get? a = some o) (hc : o.cls = .type "tuple") (hd : o.data = .seq items n)
    (hT : ∀ prog w, ReprAll prog w items.toList ts) (hsz : (tupleText ts).length ≤ sizeLine)
    (h : ∀ (m : Str) (u tk : Tok), m.length ≤ (tupleText ts).length + 5 → Q (.str m u) { s with toks := tk }) : wpAny (model prog w) A (call (.type "str") [.ref a]) Q E s :=
  callType_new F.called_str (by decide) (F.typeCall_str_1 _) (F.newCall_str_1 _) (fun obj => F.args_object_init_2 obj _) F.entry_str_new
    (meets_str_new (S := fun A' R s' => A'.units + 2 < cLine ∧ s'.heap.get? a = some o ∧ ∀ (m : Str) (u tk : Tok), m.length ≤ (tupleText ts).length + 5 → R (.ok (.ret (.str m u))) { s' with toks := tk })
      fun prog' w' A' R s' hq => wpAny_strOf_slot rfl (by show A'.units + 1 + 1 < cLine; have := hq.1; omega) ⟨o, hq.2.1, hc⟩ F.slot_tuple_str F.slot_tuple_repr
        (fmt_tuple_repr hq.2.1 hc hd (hT _ _) hsz fun m u tk hm => ⟨m, u, rfl, hq.2.2 m u tk hm⟩))
    ⟨(show A.units + 1 + 2 < cLine from hu), ha, fun m u tk hm => ⟨typeIs_str _ _ _, h m u tk hm⟩⟩
end
theorem repr_ints : ∀ {is : List Int} {us : List Value}, Vals (is.map V.int) us → (∀ i ∈ is, i.natAbs < 10 ^ 9) → ∃ ts, (∀ prog w, ReprAll prog w us ts) ∧ ts.length = is.length ∧ (ts.map (·.length)).sum ≤ 10 * is.length
  | [], _, r, _ => by
    cases r
    exact ⟨[], fun _ _ => .nil, rfl, Nat.le_refl _⟩
  | i :: is, _, r, h => by
    cases r with
    | cons r1 r2 =>
      obtain ⟨t, rfl⟩ := r1
      obtain ⟨ts, h1, h2, h3⟩ := repr_ints r2 fun j hj => h j (List.mem_cons_of_mem _ hj)
      have hi := h i List.mem_cons_self
      refine ⟨toString i :: ts, fun prog w => .cons (ReprIs.int t ?_) (h1 prog w), by rw [List.length_cons, h2, List.length_cons], ?_⟩
      · by_cases z : i.natAbs = 0
        · rw [z]; decide
        · exact (Nat.log2_lt z).mpr (Nat.lt_of_lt_of_le hi (Nat.le_trans (show 10 ^ 9 ≤ 2 ^ 30 by decide) (Nat.pow_le_pow_right (by decide) (by decide))))
      · have := int_text_length_le10 (k := 9) (by decide) hi
        have e : (Str.ofString (toString i)).length = (toString i).length := PySem.ofString_length _
        rw [List.map_cons, List.sum_cons, List.length_cons]
        omega
section
variable {X : Cx}
def rStrT (K : PySem.W.Frag) : List V → Hp → VK → Prop := fun xs H Q => ∃ (b : Addr) (is : List Int), xs = [.ref b] ∧ SqT K H b (is.map V.int) ∧ is.length ≤ 1000 ∧ (∀ i ∈ is, i.natAbs < 10 ^ 9) ∧ ∀ y : Str, y.length ≤ 100000 → Q (.str y) H
theorem call_strT {k : Nat} (hr : Room k X.A) : CallR X (.type "str") (rStrT X.K) := by
  intro pins s σ H xs us Q I r h
  obtain ⟨b, is, rfl, hb, hl, hi, q⟩ := h
  obtain ⟨u, rfl, r1⟩ := vals1 r
  cases r1
  obtain ⟨its, rv, ⟨o, ho, hc, n, hd⟩, _⟩ := I.tuple hb
  obtain ⟨ts, h1, h2, h3⟩ := repr_ints rv hi
  have hl2 := tupleText_len_le ts
  refine str_of_tup (by have := hr.un; omega) ho hc hd (by simpa using h1) (Nat.le_trans hl2 (by rw [sizeLine_eq]; omega)) fun m u tk hm => ?_
  exact ⟨.str m, H, I.tok _, ⟨u, rfl⟩, q m (by omega)⟩
end
end L2
namespace VF
open PySem PySem.Spec PyProof.Rows L2
def wStrT : List DV → DP → Prop
  | [.tup ds], P => ∃ is : List Int, ds = iD is ∧ is.length ≤ 1000 ∧ (∀ i ∈ is, i.natAbs < 10 ^ 9) ∧ ∀ y : Str, y.length ≤ 100000 → P (.str y)
  | _, _ => False
theorem datL_ints {K : PySem.W.Frag} {b : Addr} {M : List Addr} {H : Hp} : ∀ {is : List Int} {vs : List V}, DatL K b M H vs (iD is) → vs = is.map V.int
  | [], _, h => by cases h; rfl
  | i :: is, _, h => by
    cases h with
    | cons h1 h2 =>
      cases h1
      rw [datL_ints h2]
      rfl
section
variable {K : PySem.W.Frag}
theorem d_strT : DCall K (rStrT K) wStrT := fun b M H xs ds Q' Q al hd hw k => by
  match ds, hw with
  | [.tup es], ⟨is, e, hl, hi, hw⟩ =>
    cases hd with
    | cons d1 d2 =>
      cases d2
      cases d1 with
      | tup s d =>
        rw [e] at d
        cases datL_ints d
        exact ⟨_, is, rfl, s.1, hl, hi, fun y hy => k _ H _ (BF.Ex.refl H) (.str _) (hw y hy)⟩
theorem y_strT {is : List Int} {P : DP} (hl : is.length ≤ 1000) (hi : ∀ i ∈ is, i.natAbs < 10 ^ 9) (k : ∀ y : Str, y.length ≤ 100000 → P (.str y)) : wStrT [.tup (iD is)] P := ⟨is, rfl, hl, hi, k⟩
end
end VF
/-! ## The bag -/
namespace BF
open PySem PySem.Spec PyProof.Rows L2
/-- the bag at b: its script at sc; at most n draws so far -/
structure Bag (K : PySem.W.Frag) (b sc : Addr) (ns : List Int) (H : Hp) (n : Int) : Prop where
  scr : H sc = some (.lst (ns.map V.int))
  ne : sc ≠ b
  obj : ∃ i r m c : Int, H b = some (.lst [.ref sc, .int i, .int r, .int m, .int c]) ∧ 0 ≤ i ∧ 0 ≤ r ∧ 0 ≤ m ∧ m < 2147483629 ∧ 0 ≤ c ∧ c ≤ n
theorem Bag.ex {K : PySem.W.Frag} {b sc : Addr} {ns : List Int} {H H' : Hp} {n : Int} {M : List Addr} (h : Bag K b sc ns H n) (e : Ex M H H') (h1 : sc ∉ M) (h2 : b ∉ M) : Bag K b sc ns H' n := by
  obtain ⟨s, ne, i, r, m, c, hb, q⟩ := h
  exact ⟨e _ _ h1 s, ne, i, r, m, c, e _ _ h2 hb, q⟩

def spDraw (K : PySem.W.Frag) : Sp := fun vs H Q _ => ∃ (b sc : Addr) (ns : List Int) (n k : Int), vs = [.ref b, .int k] ∧ Bag K b sc ns H n ∧ n ≤ 1000000 ∧ 0 < k ∧ k < 1073741824 ∧
  ∀ (m : Int) (H' : Hp), 0 ≤ m → m < k → Ex [b] H H' → Bag K b sc ns H' (n + 1) → Q (.int m) H'
section
variable {P : Program} {w : World} {K : PySem.W.Frag} {mg : Str → Option Value} {base : Heap}
theorem sc__law_draw : FnScope ["_law_bag_here", "_law_many", "_law_item", "_law_digit"] ["_law_bag_here", "_law_many"] (defScope s__law_draw) := ⟨rfl, rfl, rfl, by decide +kernel, rfl, by decide +kernel, by decide +kernel⟩
theorem ok__law_draw (T : TT K mg) : FnOk P w K mg base CX0 1 (He.ga K "_law_draw") (fdOf K ("_law_draw", none)) ["_law_bag_here", "_law_many"] (spDraw K) := by
  refine (F__law_draw T).ok sc__law_draw (fun vs H Q E h => ?_) (fun cdv A outer s H vs Q E hr h => ⟨_, PSs.nox ((pss_cons (ps_asg (pe_op (op_addUK K) (pe_ix (ix_LTK K) (pv 0) pe_int (fun _ _ => rfl)) pe_int) (pg_sub (pv 0) pe_int set_list))
  (C8.pss_cut (ps_if (PW.pt (pw_and (pt_cmpR op_eq (pe_ix (ix_LTK K) (pv 0) pe_int (fun _ _ => rfl)) pe_int (nomark _)) (pw_and1 (pt_cmpR op_lt (pe_ix (ix_LTK K) (pv 0) pe_int (fun _ _ => rfl)) (pe_callB (call_lenLTK K) (by rfl) (T.free "len" rfl) boot_len (pa_cons (pe_ix (ix_LTK K) (pv 0) pe_int (fun _ _ => rfl)) pa_nil)) (nomark _))))) (pss_cons (ps_set (i := 2) sc__law_draw.nd rfl (Or.inl rfl) (pe_ix (ix_LTK K) (pe_ix (ix_LTK K) (pv 0) pe_int (fun _ _ => rfl)) (pe_ix (ix_LTK K) (pv 0) pe_int (fun _ _ => rfl)) (fun _ _ => rfl)))
  (pss_cons (ps_asg (pe_op (op_addUK K) (pe_ix (ix_LTK K) (pv 0) pe_int (fun _ _ => rfl)) pe_int) (pg_sub (pv 0) pe_int set_list))
  (pss_one (ps_if (pt_cmpR op_ge (pv 2) (pe_op op_pow pe_int pe_int) (nomark _)) (pss_one (ps_asg (pv 2) (pg_sub (pv 0) pe_int set_list))) (pss_one (ps_asg (pe_op op_mod (pe_callTy call_intX (by rfl) (T.free "int" rfl) boot_int (pa_cons (pe_op (op_addUK K) (pe_op (op_addUK K) (pe_op op_mulW (pe_ix (ix_LTK K) (pv 0) pe_int (fun _ _ => rfl)) pe_int) (pe_op op_mulW (pe_op op_mod (pe_callTy call_intX (by rfl) (T.free "int" rfl) boot_int (pa_cons (pv 2) pa_nil)) pe_int) pe_int)) pe_int) pa_nil)) pe_int) (pg_sub (pv 0) pe_int set_list))))))) pss_nil)
  (pss_cons (ps_if (pt_cmpR op_gt (pe_ix (ix_LTK K) (pv 0) pe_int (fun _ _ => rfl)) pe_int (nomark _)) (pss_cons (ps_set (i := 3) sc__law_draw.nd rfl (Or.inl rfl) (pe_op op_mod (pe_callTy call_intX (by rfl) (T.free "int" rfl) boot_int (pa_cons (pe_ix (ix_LTK K) (pv 0) pe_int (fun _ _ => rfl)) pa_nil)) (pv 1)))
  (pss_cons (ps_asg (pe_op op_fdivW (pe_ix (ix_LTK K) (pv 0) pe_int (fun _ _ => rfl)) (pv 1)) (pg_sub (pv 0) pe_int set_list))
  (pss_one (ps_ret (pv 3))))) pss_nil)
  (pss_cons (ps_asg (pe_op op_mod (pe_callTy call_intX (by rfl) (T.free "int" rfl) boot_int (pa_cons (pe_op (op_addUK K) (pe_op (op_addUK K) (pe_op op_pow (pe_ix (ix_LTK K) (pv 0) pe_int (fun _ _ => rfl)) pe_int) (pe_op op_mulW (pe_ix (ix_LTK K) (pv 0) pe_int (fun _ _ => rfl)) pe_int)) pe_int) pa_nil)) pe_int) (pg_sub (pv 0) pe_int set_list))
  (pss_one (ps_ret (pe_op op_mod (pe_callTy call_intX (by rfl) (T.free "int" rfl) boot_int (pa_cons (pe_op (op_addUK K) (pe_op op_fdivW (pe_ix (ix_LTK K) (pv 0) pe_int (fun _ _ => rfl)) pe_int) (pe_op op_mulW (pe_op op_mod (pe_callTy call_intX (by rfl) (T.free "int" rfl) boot_int (pa_cons (pe_ix (ix_LTK K) (pv 0) pe_int (fun _ _ => rfl)) pa_nil)) pe_int) pe_int)) pa_nil)) (pv 1))))))))), ?_⟩)
  · obtain ⟨b, sc, ns, n, k, rfl, _⟩ := h
    rfl
  · obtain ⟨b, sc, ns, n, k, rfl, hb, hn, hk0, hk, hQ⟩ := h
    obtain ⟨hs, ne, i, r, m, c, hob, q1, q2, q3, q4, q5, q6⟩ := hb
    walk_at "in"
    walk_at "gg"
    refine ⟨fun σ' H' => ∃ (o : Option V) (i r m c : Int), σ' = [some (.ref b), some (.int k), o, none] ∧ H' b = some (.lst [.ref sc, .int i, .int r, .int m, .int c]) ∧ 0 ≤ i ∧ 0 ≤ r ∧ 0 ≤ m ∧ m < 2147483629 ∧ 0 ≤ c ∧ c ≤ n + 1 ∧ Ex [b] H H', ?_, ?_⟩
    · walk_at "gg"
      refine x_ite (fun h1 => ?_) (fun h1 => ?_)
      · walk_at "gg"
        refine x_ite (fun h2 => ?_) (fun h2 => ?_)
        · walk_at "gg"
          obtain ⟨z, hz, ha⟩ := atI_ints q1 h2
          refine x_ixL (by walk_at "lk") ha ?_
          walk_at "gg"
          refine x_ite (fun h3 => ?_) (fun h3 => ?_)
          · simp only [Int.reduceToNat, Int.reducePow] at h3
            walk_at "gg"
            exact ⟨some (.int z), i + 1, z, m, c + 1, rfl, by assumption, by omega, by omega, q3, q4, by omega, by omega, by walk_at "ex"⟩
          · walk_at "gg"
            exact ⟨some (.int z), i + 1, r, _, c + 1, rfl, by assumption, by omega, by omega, by omega, by omega, by omega, by omega, by walk_at "ex"⟩
        · walk_at "gg"
          exact ⟨none, i, r, m, c + 1, rfl, by assumption, q1, q2, q3, q4, by omega, by omega, by walk_at "ex"⟩
      · walk_at "gg"
        exact ⟨none, i, r, m, c + 1, rfl, by assumption, q1, q2, q3, q4, by omega, by omega, by walk_at "ex"⟩
    · rintro σ' H' ⟨o, i, r, m, c, rfl, hob', q1, q2, q3, q4, q5, q6, e'⟩
      walk_at "gg"
      refine x_ite (fun h1 => ?_) (fun h1 => ?_)
      · walk_at "gg"
        refine hQ _ _ (Int.emod_nonneg _ (by omega)) (Int.emod_lt_of_pos _ hk0) (by walk_at "ex") ⟨by walk_at "lk1", ne, i, r / k, m, c, by assumption, q1, Int.ediv_nonneg q2 (by omega), q3, q4, q5, q6⟩
      · walk_at "gg"
        refine hQ _ _ (Int.emod_nonneg _ (by omega)) (Int.emod_lt_of_pos _ hk0) (by walk_at "ex") ⟨by walk_at "lk1", ne, i, r, _, c, by assumption, q1, q2, by omega, by omega, q5, q6⟩
/-- the bag's making -/
def spBag (K : PySem.W.Frag) : Sp := fun vs H Q _ => ∃ (a : Addr) (ns : List Int), vs = [.ref a] ∧ SqL K H a (ns.map V.int) ∧
  ∀ (b sc : Addr) (ms : List Int) (H' : Hp), H b = none → H sc = none → Ex [] H H' → Bag K b sc ms H' 0 → Q (.ref b) H'
theorem cut_ints (ns : List Int) (lo hi : Option Int) : ∃ ms : List Int, cutV (ns.map V.int) lo hi = ms.map V.int ∧ ms.length ≤ ns.length := by
  unfold cutV
  rw [← List.map_drop, ← List.map_take]
  refine ⟨_, rfl, ?_⟩
  rw [List.length_take, List.length_drop]
  omega
theorem sc__law_bag : FnScope ["_law_script", "_law_seed", "_law_item"] ["_law_script"] (defScope s__law_bag) := ⟨rfl, rfl, rfl, by decide +kernel, rfl, by decide +kernel, by decide +kernel⟩
theorem ok__law_bag (T : TT K mg) : FnOk P w K mg base CX0 1 (He.ga K "_law_bag") (fdOf K ("_law_bag", none)) ["_law_script"] (spBag K) := by
  refine (F__law_bag T).ok sc__law_bag (fun vs H Q E h => ?_) (fun cdv A outer s H vs Q E hr h => ⟨_, PSs.nox ((pss_cons (ps_set (i := 1) sc__law_bag.nd rfl (Or.inl rfl) pe_int)
  (pss_cons (ps_for PassesOwn.never rfl (pi_list (pe_slice (sl_listK K) (pv 0) po_none (po_some pe_int))) (pg_name (i := 2) sc__law_bag.nd rfl (Or.inl rfl)) (pss_one (ps_set (i := 1) sc__law_bag.nd rfl (Or.inl rfl) (pe_op op_mod (pe_callTy call_intX (by rfl) (T.free "int" rfl) boot_int (pa_cons (pe_op (op_addUK K) (pe_op (op_addUK K) (pe_op op_mulW (pv 1) pe_int) (pe_op op_mod (pe_callTy call_intX (by rfl) (T.free "int" rfl) boot_int (pa_cons (pv 2) pa_nil)) pe_int)) pe_int) pa_nil)) pe_int))))
  (pss_one (ps_ret (pe_lstE (pa_cons (pe_callTy (call_listLTK K) (by rfl) (T.free "list" rfl) boot_list (pa_cons (pe_slice (sl_listK K) (pv 0) po_none (po_some pe_int)) pa_nil)) (pa_cons pe_int (pa_cons pe_int (pa_cons (pv 1) (pa_cons pe_int pa_nil))))))))))), ?_⟩)
  · obtain ⟨a, ns, rfl, _⟩ := h
    rfl
  · obtain ⟨a, ns, rfl, ha, hQ⟩ := h
    walk_at "in"
    walk_at "gg"
    rename_i p H1 hp e1 hl
    obtain ⟨ms, hms, _⟩ := cut_ints ns none (some 63)
    rw [hms] at hl
    refine for_it (walk_list (xs := ms.map V.int)) (fun i σ H' => ∃ (m : Int) (o : Option V), σ = [some (.ref a), some (.int m), o] ∧ 0 ≤ m ∧ m < 2147483629 ∧ Ex [] H1 H') ⟨12046, none, rfl, by decide, by decide, Ex.refl _⟩ ?_ ?_ ?_
    · rintro i σ H' _ ⟨m, o, rfl, h0, h1, e⟩
      exact sql_ex e (by simp) (sql_of hl)
    · rintro i x σ H' H'' hi ⟨m, o, rfl, h0, h1, e⟩ ⟨rfl, hx⟩
      rw [List.getElem?_map] at hx
      obtain ⟨z, hz, rfl⟩ := Option.map_eq_some_iff.mp hx
      walk_at "gg"
      exact ⟨_, _, rfl, Int.emod_nonneg _ (by decide), Int.emod_lt_of_pos _ (by decide), e⟩
    · rintro σ H' ⟨m, o, rfl, h0, h1, e⟩
      have ha' : SqL K H' a (ns.map V.int) := sql_ex e (by simp) (sql_ex e1 (by simp) ha)
      walk_at "gg"
      rename_i p2 H2 hp2 e2 hl2 sc H3 hsc e3 hl3 b H4 hb e4 hl4
      obtain ⟨ms', hms', _⟩ := cut_ints ns none (some 63)
      rw [hms'] at hl3 hl2
      have hne : sc ≠ b := ne_of_none hl3 hb
      have es : Ex [] H H' := by walk_at "ex"
      have es2 : Ex [] H H2 := by walk_at "ex"
      have es3 : Ex [] H H3 := by walk_at "ex"
      exact hQ b sc ms' H4 (es3.free (by simp) hb) (es2.free (by simp) hsc) (by walk_at "ex") ⟨by walk_at "lk1", hne, 0, 0, m, 0, hl4, by decide, by decide, h0, h1, by decide, by decide⟩
/-- an item of a list, or of a tuple: what the bag tells -/
def spOf (K : PySem.W.Frag) : Sp := fun vs H Q _ => ∃ (b sc l : Addr) (ns : List Int) (n : Int) (xs : List V), vs = [.ref b, .ref l] ∧ Bag K b sc ns H n ∧ n ≤ 1000000 ∧ (SqL K H l xs ∨ SqT K H l xs) ∧ l ≠ b ∧ 0 < xs.length ∧ xs.length < 1000000 ∧
  ∀ (i : Nat) (v : V) (H' : Hp), xs[i]? = some v → Ex [b] H H' → Bag K b sc ns H' (n + 1) → Q v H'
theorem sc__law_of : FnScope ["_law_bag_here", "_law_things"] ["_law_bag_here", "_law_things"] (defScope s__law_of) := ⟨rfl, rfl, rfl, by decide +kernel, rfl, by decide +kernel, by decide +kernel⟩
theorem ok__law_of (T : TT K mg) : FnOk P w K mg base CX0 2 (He.ga K "_law_of") (fdOf K ("_law_of", none)) ["_law_bag_here", "_law_things"] (spOf K) := by
  refine (F__law_of T).ok sc__law_of (fun vs H Q E h => ?_) (fun cdv A outer s H vs Q E hr h => ⟨_, PSs.nox ((pss_one (ps_ret (pe_ix (ix_LTK K) (pv 1) (pe_call (ok__law_draw T) (hr.mono (by decide)) (by rfl) (T.glo "_law_draw" rfl) (F__law_draw T).kp (B__law_draw T) .nil pass0 (pa_cons (pv 0) (pa_cons (pe_callB (call_lenLTK K) (by rfl) (T.free "len" rfl) boot_len (pa_cons (pv 1) pa_nil)) pa_nil))) (fun _ _ => rfl))))), ?_⟩)
  · obtain ⟨b, sc, l, ns, n, xs, rfl, _⟩ := h
    rfl
  · obtain ⟨b, sc, l, ns, n, xs, rfl, hb, hn, hl, hlb, h0, h1, hQ⟩ := h
    walk_at "in"
    walk_at "gg"
    refine ⟨l, xs, rfl, hl, ?_⟩
    walk_at "gg"
    refine ⟨b, sc, ns, n, _, rfl, hb, hn, by omega, by omega, fun m H' m0 m1 e hb' => ?_⟩
    have hm : m.toNat < xs.length := by omega
    have ha : atI xs m = some xs[m.toNat] := by
      have q := atI_nat (List.getElem?_eq_getElem hm)
      rw [Int.toNat_of_nonneg m0] at q
      exact q
    rcases hl with hl | hl
    · refine x_ixL (sql_ex e (by simpa using hlb) hl) ha ?_
      exact hQ m.toNat _ H' (List.getElem?_eq_getElem hm) e hb'
    · refine x_ixT (sqt_ex e (by simpa using hlb) hl) ha ?_
      exact hQ m.toNat _ H' (List.getElem?_eq_getElem hm) e hb'
end
end BF
/-! ## The bag by data; numbers of the law's own -/
namespace BF
open PySem PySem.Spec PyProof.Rows L2 VF
def tabs (K : PySem.W.Frag) : List (Addr × Str) := [((He.cT K ("_law_ratio_so", none)).2, "_law_ratio_so" ++ ".<locals>." ++ "<lambda>"), ((He.cT K ("_law_ratios", none)).2, "_law_ratios" ++ ".<locals>." ++ "<lambda>"), ((He.cT K ("_law_refused_ratios", none)).2, "_law_refused_ratios" ++ ".<locals>." ++ "<lambda>"), ((He.cT K ("_law_words", none)).2, "_law_words" ++ ".<locals>." ++ "<lambda>"), ((He.cT K ("_law_refused_words", none)).2, "_law_refused_words" ++ ".<locals>." ++ "<lambda>")]
section
variable {K : PySem.W.Frag} {H H1 : Hp} {b sc : Addr} {ns : List Int} {n : Int}
def bagC (K : PySem.W.Frag) (b sc : Addr) (ns : List Int) : Cf where
  b := b
  bx := [b, sc]
  B := fun H n => Bag K b sc ns H n
  Bk := fun {H H' n} k h => by
    obtain ⟨s, ne, i, r, m, c, hb, q⟩ := h
    exact ⟨k sc _ (by simp) s, ne, i, r, m, c, k b _ (by simp) hb, q⟩
  bb := by simp
  Ba := fun {H n} h x hx => by
    obtain ⟨s, ne, i, r, m, c, hb, q⟩ := h
    rcases List.mem_cons.mp hx with rfl | hx
    · exact ⟨_, hb, nofun⟩
    · rw [List.mem_singleton.mp hx]
      exact ⟨_, s, nofun⟩
  T := tabs K
def Cs (K : PySem.W.Frag) (C : Cf) : Prop := ∃ b sc ns, C = bagC K b sc ns
/-- behind a step that changes the bag alone -/
theorem bag_post {M : List Addr} {m : Int} (bag : Bag K b sc ns H m) (t : LamX.Tabs (tabs K) H) (al : AlN M H) (e : Ex [b] H H1) (hb : Bag K b sc ns H1 n) : Post (bagC K b sc ns) M H H1 n := by
  obtain ⟨s, ne, i, r, m', c, ho, q⟩ := bag
  refine ⟨Ey.ex e, fun x hx => ?_, hb, tabs_ex ho e t⟩
  obtain ⟨o, h, z⟩ := al x hx
  by_cases k : x = b
  · subst k
    obtain ⟨_, _, _, _, _, _, h', _⟩ := hb
    exact ⟨_, h', .inl ⟨_, rfl⟩⟩
  · exact ⟨o, e _ _ (by simpa using k) h, z⟩
/-- behind a step that changes nothing -/
theorem post0 {C : Cf} {M : List Addr} (hb : C.B H n) (t : LamX.Tabs C.T H) (al : AlN M H) (e : Ex [] H H1) : Post C M H H1 n :=
  ⟨Ey.ex0 e, fun x hx => by
    obtain ⟨o, h, z⟩ := al x hx
    exact ⟨o, e _ _ (by simp) h, z⟩, C.Bk (fun x o _ h => e _ _ (by simp) h) hb, tabs_ex0 e t⟩
variable {P : Program} {w : World} {mg : Str → Option Value} {base : Heap}
def sDraw : DSp := fun ds n Q _ => ∃ k : Int, ds = [.bag, .int k] ∧ n ≤ 1000000 ∧ 0 < k ∧ k < 1073741824 ∧ ∀ m, 0 ≤ m → m < k → Q (.int m) (n + 1)
theorem v__law_draw (T : TT K mg) : FnOk P w K mg base CX0 1 (He.ga K "_law_draw") (fdOf K ("_law_draw", none)) ["_law_bag_here", "_law_many"] (liftSp K (Cs K) sDraw) := (ok__law_draw T).imp fun vs H Q E h => by
  obtain ⟨C, M, n, ds, Q', E', ⟨b, sc, ns, rfl⟩, hb, al, bag, tab, hd, ⟨k, rfl, h1, h2, h3, hq⟩, hQ, _⟩ := h
  cases hd with
  | cons d1 d2 =>
    cases d1
    cases d2 with
    | cons d1 d2 =>
      cases d1
      cases d2
      exact ⟨b, sc, ns, n, k, rfl, bag, h1, h2, h3, fun m H' m0 m1 e hb' => hQ (.int m) H' (.int m) (n + 1) (bag_post bag tab al e hb') (.int m) (hq m m0 m1)⟩
/-- an item -/
def sOf : DSp := fun ds n Q _ => ∃ xs : List VF.DV, (ds = [.bag, .lst xs] ∨ ds = [.bag, .tup xs]) ∧ n ≤ 999999 ∧ 0 < xs.length ∧ xs.length < 1000000 ∧ ∀ (i : Nat) x, xs[i]? = some x → Q x (n + 1)
theorem v__law_of (T : TT K mg) : FnOk P w K mg base (L2.CX P w) 2 (He.ga K "_law_of") (fdOf K ("_law_of", none)) ["_law_bag_here", "_law_things"] (liftSp K (Cs K) sOf) := by
  refine v_ok (F__law_of T) sc__law_of (by decide) (by decide) ?_ (fun cdv A outer s H W ds n Q' hC hE hr h => ⟨_, (vss_one (vs_ret (ps_ret (ve_ix (ix_LTK K) d_ix (ve_var (pv 1)) (ve_call hC hE (pe_call (v__law_draw T) (hr.mono (by decide)) (by rfl) (T.glo "_law_draw" rfl) (F__law_draw T).kp (B__law_draw T) .nil pass0 (va_cons (ve_var (pv 0)) (va_cons (ve_cb (pe_callB (call_lenK K) (by rfl) (T.free "len" rfl) boot_len (va_cons (ve_var (pv 1)) va_nil)) d_len) va_nil))) (fun _ _ _ => .nil)) (fun _ _ => rfl))))), ?_⟩)
  · rintro ds n Q E ⟨xs, rfl | rfl, _⟩ <;> rfl
  · obtain ⟨xs, hd, hn, h0, h1, hq⟩ := h
    have key : ∀ m : Int, 0 ≤ m → m < xs.length → ∃ x, atI xs m = some x ∧ Q' x (n + 1) := fun m m0 m1 => by
      have hm : m.toNat < xs.length := by omega
      have q := atI_nat (List.getElem?_eq_getElem hm)
      rw [Int.toNat_of_nonneg m0] at q
      exact ⟨_, q, hq _ _ (List.getElem?_eq_getElem hm)⟩
    rcases hd with rfl | rfl
    · walk_at "v"
      refine ⟨_, rfl, by omega, by omega, by omega, fun m m0 m1 => ?_⟩
      exact key m m0 m1
    · walk_at "v"
      refine ⟨_, rfl, by omega, by omega, by omega, fun m m0 m1 => ?_⟩
      exact key m m0 m1
theorem y_draw {n : Int} {k : Int} {Q : VF.DV → Int → Prop} {E : XV} (h : n ≤ 1000000) (h0 : 0 < k) (h1 : k < 1073741824) (hq : ∀ m, 0 ≤ m → m < k → Q (.int m) (n + 1)) : sDraw ([.bag, .int k] ++ []) n Q E := ⟨k, rfl, h, h0, h1, hq⟩
theorem y_of {n : Int} {xs : List VF.DV} {Q : VF.DV → Int → Prop} {E : XV} (h : n ≤ 999999) (h0 : 0 < xs.length) (h1 : xs.length < 1000000) (hq : ∀ (i : Nat) x, xs[i]? = some x → Q x (n + 1)) : sOf ([.bag, .lst xs] ++ []) n Q E := ⟨xs, .inl rfl, h, h0, h1, hq⟩
end
end BF
/-! ## The errors -/
namespace BF
open PySem PySem.Spec PyProof.Rows L2 VF
def fsN : List V → List (Str × V)
  | [p] => [("code", .str "InvalidNumber"), ("value", p)]
  | _ => []
def fsT : List V → List (Str × V)
  | [p, q] => [("code", .str "TooMany"), ("count", q), ("what", p)]
  | _ => []
def nsN : List Str := ["code", "value"]
def nsT : List Str := ["code", "count", "what"]
def gdN : List VF.DV → List VF.DV
  | [p] => [.str "InvalidNumber", p]
  | _ => []
def gdT : List VF.DV → List VF.DV
  | [p, q] => [.str "TooMany", q, p]
  | _ => []
section
variable {P : Program} {w : World} {K : PySem.W.Frag} {mg : Str → Option Value} {base : Heap}
theorem xInvalidNumber (T : TT K mg) : ExcOk K "InvalidNumber" := (ExcD.to (m_0 T)).1
theorem xTooMany (T : TT K mg) : ExcOk K "TooMany" := (ExcD.to (m_1 T)).1
theorem raise_N : ∀ (b : Addr) (M : List Addr) (H : Hp) (vs : List V) (ds : List VF.DV), VF.DatL K b M H vs ds → vs.length = 1 → ∃ ws, fsN vs = nsN.zip ws ∧ nsN.length = ws.length ∧ VF.DatL K b M H ws (gdN ds) := fun b M H vs ds h hl => by
  cases h with
  | nil => cases hl
  | cons d1 h =>
    cases h with
    | nil => exact ⟨[.str "InvalidNumber", _], rfl, rfl, .cons (.str _) (.cons d1 .nil)⟩
    | cons _ _ => cases hl
theorem raise_T : ∀ (b : Addr) (M : List Addr) (H : Hp) (vs : List V) (ds : List VF.DV), VF.DatL K b M H vs ds → vs.length = 2 → ∃ ws, fsT vs = nsT.zip ws ∧ nsT.length = ws.length ∧ VF.DatL K b M H ws (gdT ds) := fun b M H vs ds h hl => by
  cases h with
  | nil => cases hl
  | cons d1 h =>
    cases h with
    | nil => cases hl
    | cons d2 h =>
      cases h with
      | nil => exact ⟨[.str "TooMany", _, _], rfl, rfl, .cons (.str _) (.cons d2 (.cons d1 .nil))⟩
      | cons _ _ => cases hl
theorem sc_InvalidNumber___init__ : FnScope ["self", "value"] ["self", "value"] (defScope s_InvalidNumber___init__) := ⟨rfl, rfl, rfl, by decide +kernel, rfl, by decide +kernel, by decide +kernel⟩
theorem ok_InvalidNumber___init__ (T : TT K mg) : FnOk P w K mg base CX0 1 (He.ma K (He.ga K "InvalidNumber") "__init__") (fdOf K ("InvalidNumber", some "__init__")) ["self", "value"] (spEx (He.ga K "InvalidNumber") 1 fsN) := by
  refine (F_InvalidNumber___init__ T).ok sc_InvalidNumber___init__ (fun vs H Q E h => ?_) (fun cdv A outer s H vs Q E hr h => ⟨_, PSs.nox ((pss_cons (ps_ostE K (pv 0) (pv 1))
  (pss_one (ps_ostE K (pv 0) pe_str)))), ?_⟩)
  · obtain ⟨a, ws, rfl, hw, _⟩ := h
    rw [List.length_cons, hw]
    rfl
  · obtain ⟨a, ws, rfl, hw, ha, hQ⟩ := h
    match ws, hw with
    | [p], _ =>
      have hX := (xInvalidNumber T).oex
      have n1 := (ExcD.to (m_0 T)).2 "value" (by decide)
      have n3 := (ExcD.to (m_0 T)).2 "code" (by decide)
      walk_at "in"
      walk_at "gg"
      rename_i d H1 hd ne e1 ha1 hd1 H2 e2 ha2 hd2
      exact hQ d H2 hd ne (Ex.skip e1 hd e2) ha2 hd2
theorem sc_TooMany___init__ : FnScope ["self", "what", "count"] ["self", "what", "count"] (defScope s_TooMany___init__) := ⟨rfl, rfl, rfl, by decide +kernel, rfl, by decide +kernel, by decide +kernel⟩
theorem ok_TooMany___init__ (T : TT K mg) : FnOk P w K mg base CX0 1 (He.ma K (He.ga K "TooMany") "__init__") (fdOf K ("TooMany", some "__init__")) ["self", "what", "count"] (spEx (He.ga K "TooMany") 2 fsT) := by
  refine (F_TooMany___init__ T).ok sc_TooMany___init__ (fun vs H Q E h => ?_) (fun cdv A outer s H vs Q E hr h => ⟨_, PSs.nox ((pss_cons (ps_ostE K (pv 0) (pv 1))
  (pss_cons (ps_ostE K (pv 0) (pv 2))
  (pss_one (ps_ostE K (pv 0) pe_str))))), ?_⟩)
  · obtain ⟨a, ws, rfl, hw, _⟩ := h
    rw [List.length_cons, hw]
    rfl
  · obtain ⟨a, ws, rfl, hw, ha, hQ⟩ := h
    match ws, hw with
    | [p, q], _ =>
      have hX := (xTooMany T).oex
      have n1 := (ExcD.to (m_1 T)).2 "what" (by decide)
      have n2 := (ExcD.to (m_1 T)).2 "count" (by decide)
      have n3 := (ExcD.to (m_1 T)).2 "code" (by decide)
      walk_at "in"
      walk_at "gg"
      rename_i d H1 hd ne e1 ha1 hd1 H2 e2 ha2 hd2 H3 e3 ha3 hd3
      exact hQ d H3 hd ne (Ex.skip (Ex.skip e1 hd e2) hd e3) ha3 hd3
end
end BF
/-! ## The plain law of words: digits, indexes -/
namespace BF
/-- the last i digits of t, last first -/
def bd (s t : Nat) : Nat → List Nat
  | 0 => []
  | i + 1 => bd s t i ++ [t / s ^ i % s]
/-- the n digits of t -/
def dg (s n t : Nat) : List Nat := (bd s t n).reverse
def widx (s : Nat) (xs : List Nat) : Nat := xs.foldl (fun a x => a * s + x) 0
theorem bd_len (s t : Nat) : ∀ n, (bd s t n).length = n
  | 0 => rfl
  | n + 1 => by
    show (bd s t n ++ _).length = _
    rw [List.length_append, bd_len s t n]
    rfl
theorem dg_len (s n t : Nat) : (dg s n t).length = n := by unfold dg; rw [List.length_reverse, bd_len]
theorem bd_lt {s : Nat} (h : 0 < s) (t : Nat) : ∀ n, ∀ x ∈ bd s t n, x < s
  | 0, x, hx => by cases hx
  | n + 1, x, hx => by
    have hx : x ∈ bd s t n ++ [t / s ^ n % s] := hx
    rcases List.mem_append.mp hx with hx | hx
    · exact bd_lt h t n x hx
    · rw [List.mem_singleton.mp hx]
      exact Nat.mod_lt _ h
theorem dg_lt {s : Nat} (h : 0 < s) (n t : Nat) : ∀ x ∈ dg s n t, x < s := fun x hx => bd_lt h t n x (List.mem_reverse.mp hx)
theorem bd_push {s t x : Nat} (hx : x < s) : ∀ n, bd s (t * s + x) (n + 1) = x :: bd s t n
  | 0 => by
    show [] ++ [(t * s + x) / s ^ 0 % s] = [x]
    rw [Nat.pow_zero, Nat.div_one, Nat.mul_comm, Nat.mul_add_mod, Nat.mod_eq_of_lt hx]
    rfl
  | n + 1 => by
    show bd s (t * s + x) (n + 1) ++ [(t * s + x) / s ^ (n + 1) % s] = x :: (bd s t n ++ [t / s ^ n % s])
    rw [bd_push hx n]
    have e : (t * s + x) / s ^ (n + 1) = t / s ^ n := by
      rw [Nat.pow_succ', ← Nat.div_div_eq_div_mul]
      congr 1
      rw [Nat.mul_comm t s, Nat.mul_add_div (by omega), Nat.div_eq_of_lt hx, Nat.add_zero]
    rw [e]
    rfl
theorem dg_push {s t x : Nat} (hx : x < s) (n : Nat) : dg s (n + 1) (t * s + x) = dg s n t ++ [x] := by
  unfold dg
  rw [bd_push hx n, List.reverse_cons]
theorem widx_push (s x : Nat) (xs : List Nat) : widx s (xs ++ [x]) = widx s xs * s + x := by
  unfold widx
  rw [List.foldl_append]
  rfl
theorem snoc_ind {α : Type} {P : List α → Prop} (h0 : P []) (h1 : ∀ xs x, P xs → P (xs ++ [x])) : ∀ xs, P xs := by
  have : ∀ xs : List α, P xs.reverse := by
    intro xs
    induction xs with
    | nil => exact h0
    | cons x xs ih =>
      rw [List.reverse_cons]
      exact h1 _ _ ih
  intro xs
  have := this xs.reverse
  rwa [List.reverse_reverse] at this
theorem widx_lt {s : Nat} : ∀ {xs : List Nat}, (∀ x ∈ xs, x < s) → widx s xs < s ^ xs.length := by
  intro xs
  induction xs using snoc_ind with
  | h0 => intro _; exact Nat.one_pos
  | h1 xs x ih =>
    intro h
    have hx := h x (by simp)
    have := ih fun y hy => h y (by simp [hy])
    rw [widx_push, List.length_append, List.length_singleton, Nat.pow_succ]
    calc widx s xs * s + x < widx s xs * s + s := by omega
      _ = (widx s xs + 1) * s := by rw [Nat.add_mul, Nat.one_mul]
      _ ≤ s ^ xs.length * s := Nat.mul_le_mul_right _ this
theorem dg_widx {s : Nat} : ∀ {xs : List Nat}, (∀ x ∈ xs, x < s) → dg s xs.length (widx s xs) = xs := by
  intro xs
  induction xs using snoc_ind with
  | h0 => intro _; rfl
  | h1 xs x ih =>
    intro h
    rw [widx_push, List.length_append, List.length_singleton, dg_push (h x (by simp)), ih fun y hy => h y (by simp [hy])]
/-- by places, from the end: what the law adds up -/
theorem widx_cons (s x : Nat) (xs : List Nat) : widx s (x :: xs) = x * s ^ xs.length + widx s xs := by
  induction xs using snoc_ind with
  | h0 => simp [widx]
  | h1 xs y ih =>
    rw [← List.cons_append, widx_push, ih, widx_push, List.length_append, List.length_singleton, Nat.pow_succ, Nat.add_mul, Nat.mul_assoc, Nat.add_assoc]
theorem widx_drop {s : Nat} {xs : List Nat} {k x : Nat} (h : xs[xs.length - 1 - k]? = some x) (hk : k < xs.length) : widx s (xs.drop (xs.length - (k + 1))) = x * s ^ k + widx s (xs.drop (xs.length - k)) := by
  have hi : xs.length - 1 - k < xs.length := by omega
  have e : xs.drop (xs.length - (k + 1)) = x :: xs.drop (xs.length - k) := by
    rw [show xs.length - (k + 1) = xs.length - 1 - k by omega, show xs.length - k = xs.length - 1 - k + 1 by omega]
    rw [List.drop_eq_getElem_cons hi]
    rw [List.getElem?_eq_getElem hi] at h
    rw [Option.some.inj h]
  rw [e, widx_cons, List.length_drop, show xs.length - (xs.length - k) = k by omega]
theorem widx_le {s : Nat} {xs : List Nat} (h : ∀ x ∈ xs, x < s) (k : Nat) (hk : k ≤ xs.length) : widx s (xs.drop (xs.length - k)) < s ^ k := by
  have := widx_lt (s := s) (xs := xs.drop (xs.length - k)) fun x hx => h x (List.mem_of_mem_drop hx)
  rwa [List.length_drop, show xs.length - (xs.length - k) = k by omega] at this
theorem pow_bd {s k n : Nat} (hs : s ≤ 64) (hk : k ≤ n) : s ^ k ≤ 2 ^ (6 * n) := by
  calc s ^ k ≤ 64 ^ k := Nat.pow_le_pow_left hs k
    _ = 2 ^ (6 * k) := by rw [show (64 : Nat) = 2 ^ 6 from rfl, ← Nat.pow_mul]
    _ ≤ 2 ^ (6 * n) := Nat.pow_le_pow_right (by decide) (by omega)
/-- the next word, last sign first -/
def incR (s : Nat) : List Nat → List Nat
  | [] => []
  | x :: r => if x = s - 1 then 0 :: incR s r else (x + 1) :: r
theorem bd_inc {s : Nat} (h : 1 ≤ s) : ∀ (n t : Nat), bd s (t + 1) n = incR s (bd s t n)
  | 0, _ => rfl
  | n + 1, t => by
    have e : t = t / s * s + t % s := by rw [Nat.mul_comm]; exact (Nat.div_add_mod t s).symm
    have hr : t % s < s := Nat.mod_lt _ h
    have e1 : bd s t (n + 1) = t % s :: bd s (t / s) n := by
      have := bd_push (s := s) (t := t / s) hr n
      rwa [← e] at this
    rw [e1]
    show bd s (t + 1) (n + 1) = if t % s = s - 1 then 0 :: incR s (bd s (t / s) n) else (t % s + 1) :: bd s (t / s) n
    by_cases c : t % s = s - 1
    · rw [if_pos c, ← bd_inc h n (t / s)]
      have e2 : t + 1 = (t / s + 1) * s + 0 := by rw [Nat.add_mul, Nat.one_mul]; omega
      rw [e2]
      exact bd_push (by omega) n
    · rw [if_neg c]
      have e2 : t + 1 = t / s * s + (t % s + 1) := by omega
      have := bd_push (s := s) (t := t / s) (x := t % s + 1) (by omega) n
      rwa [← e2] at this
theorem incR_max (s : Nat) : ∀ (j : Nat) (u : List Nat), incR s (List.replicate j (s - 1) ++ u) = List.replicate j 0 ++ incR s u
  | 0, u => rfl
  | j + 1, u => by
    rw [List.replicate_succ, List.cons_append, List.replicate_succ, List.cons_append, ← incR_max s j u]
    show (if s - 1 = s - 1 then _ else _) = _
    rw [if_pos rfl]
theorem bd_zero (s : Nat) : ∀ n, bd s 0 n = List.replicate n 0
  | 0 => rfl
  | n + 1 => by
    show bd s 0 n ++ [0 / s ^ n % s] = _
    rw [bd_zero s n, Nat.zero_div, Nat.zero_mod, List.replicate_succ']
/-- all words in order -/
def wl (s n : Nat) : List (List Nat) := (List.range (s ^ n)).map (dg s n)
theorem wl_len (s n : Nat) : (wl s n).length = s ^ n := by simp [wl]
theorem range_mul (a b : Nat) : List.range (a * b) = ((List.range a).map fun t => (List.range b).map fun x => t * b + x).flatten := by
  induction a with
  | zero => simp
  | succ a ih =>
    rw [List.range_succ, List.map_append, List.flatten_append, ← ih, Nat.succ_mul, List.range_add]
    simp
/-- the law's own list grows so -/
theorem wl_succ (s n : Nat) : wl s (n + 1) = ((wl s n).map fun w => (List.range s).map fun x => w ++ [x]).flatten := by
  unfold wl
  rw [Nat.pow_succ, range_mul, List.map_flatten, List.map_map, List.map_map]
  congr 1
  refine List.map_congr_left fun t _ => ?_
  show List.map (dg s (n + 1)) ((List.range s).map fun x => t * s + x) = (List.range s).map fun x => dg s n t ++ [x]
  rw [List.map_map]
  exact List.map_congr_left fun x hx => dg_push (List.mem_range.mp hx) n
end BF
/-! ## The program's plain defs, by data -/
namespace BF
open PySem PySem.Spec PyProof.Rows L2 VF
def wholeB : VF.DV → Bool
  | .int _ => true
  | _ => false
def numB (d : VF.DV) (lo hi : Int) : Bool := match d with
  | .int i => decide (lo ≤ i) && decide (i ≤ hi)
  | _ => false
def signB (e : Int) : VF.DV → Bool
  | .int i => decide (0 ≤ i) && decide (i < e)
  | _ => false
def wordB (d : VF.DV) (e : Int) : Bool := match d with
  | .tup xs => xs.all (signB e)
  | _ => false
/-- the ints of naturals -/
def nD (xs : List Nat) : List VF.DV := xs.map fun x => VF.DV.int (x : Nat)
theorem nD_len (xs : List Nat) : (nD xs).length = xs.length := List.length_map ..
theorem nat_of {i : Int} (h : 0 ≤ i) : ∃ n : Nat, i = n := ⟨i.toNat, by omega⟩
def sWhole : DSp := fun ds n Q _ => ∃ d, ds = [d] ∧ Pl 8 d ∧ Q (.bl (wholeB d)) n
def sNum : DSp := fun ds n Q _ => ∃ d lo hi, ds = [d, .int lo, .int hi] ∧ Pl 8 d ∧ Q (.bl (numB d lo hi)) n
def sIsWord : DSp := fun ds n Q _ => ∃ d s, ds = [d, .int s] ∧ Pl 8 d ∧ Q (.bl (wordB d (min s 64))) n
def sPow : DSp := fun ds n Q _ => ∃ a k b : Nat, ds = [.int a, .int k] ∧ a < 2 ^ b ∧ 0 < b ∧ b * (k + 1) ≤ 900000 ∧ k ≤ 100000 ∧ Q (.int (a ^ k : Nat)) n
def sTimes : DSp := fun ds n Q _ => ∃ p v r : Nat, ds = [.int (p ^ v * r : Nat), .int p] ∧ 1 < p ∧ p ≤ 64 ∧ 0 < r ∧ Nat.Coprime p r ∧ Q (.int v) n
def sWidx : DSp := fun ds n Q _ => ∃ (xs : List Nat) (s : Nat), ds = [.tup (nD xs), .int s] ∧ s ≤ 64 ∧ xs.length ≤ 100 ∧ (∀ x ∈ xs, x < s) ∧ Q (.int (widx s xs : Nat)) n
def sDig : DSp := fun ds n Q _ => ∃ t k s : Nat, ds = [.int t, .int k, .int s] ∧ 1 ≤ s ∧ s ≤ 64 ∧ k ≤ 100 ∧ Q (.tup (nD (dg s k t))) n
def sWordAt : DSp := fun ds n Q E => ∃ (d : VF.DV) (k s : Nat), ds = [d, .int k, .int s] ∧ Pl 8 d ∧ 1 ≤ s ∧ s ≤ 64 ∧ k ≤ 100 ∧ (∀ t : Nat, d = .int t → t < s ^ k → Q (.tup (nD (dg s k t))) n) ∧ (numB d 0 ((s ^ k : Nat) - 1) = false → E "InvalidNumber" nsN [.str "InvalidNumber", d] n)
section
variable {P : Program} {w : World} {K : PySem.W.Frag} {mg : Str → Option Value} {base : Heap}
theorem sc_is_whole : FnScope ["value"] ["value"] (defScope s_is_whole) := ⟨rfl, rfl, rfl, by decide +kernel, rfl, by decide +kernel, by decide +kernel⟩
theorem v_is_whole (T : TT K mg) : FnOk P w K mg base (L2.CX P w) 1 (He.ga K "is_whole") (fdOf K ("is_whole", none)) ["value"] (liftSp K (Cs K) sWhole) := by
  refine v_ok (F_is_whole T) sc_is_whole (by decide) (by decide) ?_ (fun cdv A outer s H W ds n Q' hC hE hr h => ⟨_, (vss_one (vs_ret (ps_ret (ve_and (ve_cb (pe_callB (call_isiK' K) (by rfl) (T.free "isinstance" rfl) boot_isinstance (va_cons (ve_var (pv 0)) (va_cons (ve_ty (pe_bltn (v := .ty "int") (by rfl) (T.free "int" rfl) boot_int rfl)) va_nil))) d_isi) (pe_one (ve_not (ve_cb (pe_callB (call_isiK' K) (by rfl) (T.free "isinstance" rfl) boot_isinstance (va_cons (ve_var (pv 0)) (va_cons (ve_ty (pe_bltn (v := .ty "bool") (by rfl) (T.free "bool" rfl) boot_bool rfl)) va_nil))) d_isi))))))), ?_⟩)
  · rintro ds n Q E ⟨d, rfl, _⟩; rfl
  · obtain ⟨d, rfl, ⟨x, ex, _⟩, hq⟩ := h
    walk_at "vin"
    cases d
    all_goals first
      | (cases ex; done)
      | (walk_at "vx"; exact hq)
theorem sc_is_number : FnScope ["value", "least", "most"] ["value", "least", "most"] (defScope s_is_number) := ⟨rfl, rfl, rfl, by decide +kernel, rfl, by decide +kernel, by decide +kernel⟩
theorem v_is_number (T : TT K mg) : FnOk P w K mg base (L2.CX P w) 1 (He.ga K "is_number") (fdOf K ("is_number", none)) ["value", "least", "most"] (liftSp K (Cs K) sNum) := by
  refine v_ok (F_is_number T) sc_is_number (by decide) (by decide) ?_ (fun cdv A outer s H W ds n Q' hC hE hr h => ⟨_, (vss_one (vs_ret (ps_ret (ve_and (ve_cb (pe_callB (call_isiK' K) (by rfl) (T.free "isinstance" rfl) boot_isinstance (va_cons (ve_var (pv 0)) (va_cons (ve_ty (pe_bltn (v := .ty "int") (by rfl) (T.free "int" rfl) boot_int rfl)) va_nil))) d_isi) (ve_and (ve_not (ve_cb (pe_callB (call_isiK' K) (by rfl) (T.free "isinstance" rfl) boot_isinstance (va_cons (ve_var (pv 0)) (va_cons (ve_ty (pe_bltn (v := .ty "bool") (by rfl) (T.free "bool" rfl) boot_bool rfl)) va_nil))) d_isi)) (pe_one (ve_chain op_le op_le d_IB d_IB (ve_var (pv 1)) (ve_var (pv 0)) (ve_var (pv 2))))))))), ?_⟩)
  · rintro ds n Q E ⟨d, lo, hi, rfl, _⟩; rfl
  · obtain ⟨d, lo, hi, rfl, ⟨x, ex, _⟩, hq⟩ := h
    walk_at "vin"
    cases d with
    | int i =>
      walk_at "vx"
      refine BF.x_ite (fun h1 => ?_) (fun h1 => ?_)
      · walk_at "vx"
        have e : numB (.int i) lo hi = decide (i ≤ hi) := by
          show (decide (lo ≤ i) && decide (i ≤ hi)) = _
          rw [decide_eq_true h1, Bool.true_and]
        rw [e] at hq
        exact hq
      · walk_at "vx"
        have e : numB (.int i) lo hi = false := by
          show (decide (lo ≤ i) && decide (i ≤ hi)) = _
          rw [decide_eq_false h1, Bool.false_and]
        rw [e] at hq
        exact hq
    | _ => first
      | (cases ex; done)
      | (walk_at "vx"; exact hq)
theorem sc_is_word : FnScope ["value", "signs", "end", "item"] ["value", "signs"] (defScope s_is_word) := ⟨rfl, rfl, rfl, by decide +kernel, rfl, by decide +kernel, by decide +kernel⟩
theorem v_is_word (T : TT K mg) : FnOk P w K mg base (L2.CX P w) 1 (He.ga K "is_word") (fdOf K ("is_word", none)) ["value", "signs"] (liftSp K (Cs K) sIsWord) := by
  refine v_ok (F_is_word T) sc_is_word (by decide) (by decide) ?_ (fun cdv A outer s H W ds n Q' hC hE hr h => ⟨_, (vss_cons (vs_if (vt_not (vt_val (ve_cb (pe_callB (call_isiK' K) (by rfl) (T.free "isinstance" rfl) boot_isinstance (va_cons (ve_var (pv 0)) (va_cons (ve_ty (pe_bltn (v := .ty "tuple") (by rfl) (T.free "tuple" rfl) boot_tuple rfl)) va_nil))) d_isi))) (vss_one (vs_ret (ps_ret (ve_bl pe_bl)))) vss_nil)
  (vss_cons (vs_set (ps_set (i := 2) sc_is_word.nd rfl (Or.inl rfl) (ve_cb (pe_callB (call_min2 rfl) (by rfl) (T.free "min" rfl) boot_min (va_cons (ve_var (pv 1)) (va_cons (ve_gint (by rfl) (T.int "MOST_SIGNS" 64 rfl)) va_nil))) d_min2)))
  (vss_cons (vs_for (passes_of rfl) rfl (vi_tup rfl (ve_var (pv 0))) (vg_name (pg_name (i := 3) sc_is_word.nd rfl (Or.inl rfl))) (vss_one (vs_if (PW.pt (vw_or (vt_not (vt_val (ve_cb (pe_callB (call_isiK' K) (by rfl) (T.free "isinstance" rfl) boot_isinstance (va_cons (ve_var (pv 3)) (va_cons (ve_ty (pe_bltn (v := .ty "int") (by rfl) (T.free "int" rfl) boot_int rfl)) va_nil))) d_isi))) (vw_or (vt_val (ve_cb (pe_callB (call_isiK' K) (by rfl) (T.free "isinstance" rfl) boot_isinstance (va_cons (ve_var (pv 3)) (va_cons (ve_ty (pe_bltn (v := .ty "bool") (by rfl) (T.free "bool" rfl) boot_bool rfl)) va_nil))) d_isi)) (vw_or1 (vt_not (vt_chain op_le op_lt d_IB d_IB (ve_int pe_int) (ve_var (pv 3)) (ve_var (pv 2)))))))) (vss_one (vs_ret (ps_ret (ve_bl pe_bl)))) vss_nil)))
  (vss_one (vs_ret (ps_ret (ve_bl pe_bl))))))), ?_⟩)
  · rintro ds n Q E ⟨d, s, rfl, _⟩; rfl
  · obtain ⟨d, s, rfl, hp, hq⟩ := h
    obtain ⟨x, ex, sx⟩ := id hp
    walk_at "vin"
    cases d with
    | tup xs =>
      walk_at "vx"
      have hw : ∀ d ∈ xs, signB (min s 64) d = false → Q' (.bl false) n := fun d hd e => by
        have q : wordB (.tup xs) (min s 64) = false := by
          show xs.all (signB (min s 64)) = false
          rw [List.all_eq_false]
          exact ⟨d, hd, by rw [e]; decide⟩
        rwa [q] at hq
      refine VF.y_loop (fun i τ n' => n' = n ∧ (xs.take i).all (signB (min s 64)) = true ∧ ∃ o, τ = [some (.d (.tup xs)), some (.d (.int s)), some (.d (.int (min s 64))), o]) ⟨rfl, rfl, none, rfl⟩ ?_ ?_
      · rintro i d τ n' hd ⟨rfl, ha, o, rfl⟩
        have hm := List.mem_of_getElem? hd
        obtain ⟨y, ey, _⟩ := hp.of_tup d hm
        have hn : signB (min s 64) d = true → (xs.take (i + 1)).all (signB (min s 64)) = true := fun e => by
          rw [List.take_succ, hd, List.all_append, ha]
          simp [e]
        cases d with
        | int z =>
          walk_at "vx"
          refine BF.x_ite (fun h1 => ?_) (fun h1 => ?_)
          · walk_at "vx"
            have e : signB (min s 64) (.int z) = decide (z < min s 64) := by
              show (decide (0 ≤ z) && decide (z < min s 64)) = _
              rw [decide_eq_true h1, Bool.true_and]
            refine BF.x_iteNd (fun h2 => ?_) (fun h2 => ?_)
            · walk_at "vx"
              exact ⟨rfl, hn (by rw [e, decide_eq_true h2]), _, rfl⟩
            · walk_at "vx"
              exact hw _ hm (by rw [e, decide_eq_false h2])
          · walk_at "vx"
            refine hw _ hm ?_
            show (decide (0 ≤ z) && decide (z < min s 64)) = _
            rw [decide_eq_false h1, Bool.false_and]
        | _ => first
          | (cases ey; done)
          | (walk_at "vx"; exact hw _ hm rfl)
      · rintro τ n' ⟨rfl, ha, o, rfl⟩
        rw [List.take_length] at ha
        walk_at "vx"
        have q : wordB (.tup xs) (min s 64) = true := ha
        rw [q] at hq
        exact hq
    | _ => first
      | (cases ex; done)
      | (walk_at "vx"; exact hq)
theorem sc_power_of : FnScope ["base", "exponent", "product", "_"] ["base", "exponent"] (defScope s_power_of) := ⟨rfl, rfl, rfl, by decide +kernel, rfl, by decide +kernel, by decide +kernel⟩
theorem v_power_of (T : TT K mg) : FnOk P w K mg base (L2.CX P w) 1 (He.ga K "power_of") (fdOf K ("power_of", none)) ["base", "exponent"] (liftSp K (Cs K) sPow) := by
  refine v_ok (F_power_of T) sc_power_of (by decide) (by decide) ?_ (fun cdv A outer s H W ds n Q' hC hE hr h => ⟨_, (vss_cons (vs_set (ps_set (i := 2) sc_power_of.nd rfl (Or.inl rfl) (ve_int pe_int)))
  (vss_cons (vs_for (passes_of rfl) rfl (vi_rng1 (pi_range1 (by rfl) (T.free "range" rfl) (va_cons (ve_var (pv 1)) va_nil))) (vg_name (pg_name (i := 3) sc_power_of.nd rfl (Or.inl rfl))) (vss_one (vs_set (ps_set (i := 2) sc_power_of.nd rfl (Or.inl rfl) (ve_op op_mulW d_I (ve_var (pv 2)) (ve_var (pv 0)))))))
  (vss_one (vs_ret (ps_ret (ve_var (pv 2))))))), ?_⟩)
  · rintro ds n Q E ⟨a, k, b, rfl, _⟩; rfl
  · obtain ⟨a, k, b, rfl, ha, hb, hbk, hk, hq⟩ := h
    walk_at "vin"
    walk_at "vx"
    refine VF.y_loop (fun i τ n' => n' = n ∧ ∃ o, τ = [some (.d (.int a)), some (.d (.int k)), some (.d (.int (a ^ i : Nat))), o]) ⟨rfl, none, by rw [Nat.pow_zero]; rfl⟩ ?_ ?_
    · rintro i d τ n' hd ⟨rfl, o, rfl⟩
      have hi : i < k := by
        have := (List.getElem?_eq_some_iff.mp hd).1
        rw [rngD_len] at this
        omega
      have h1 : (a ^ i : Nat) < 2 ^ (b * k + 1) := by
        have h2 : a ^ i ≤ (2 ^ b) ^ i := Nat.pow_le_pow_left (by omega) i
        rw [← Nat.pow_mul] at h2
        exact Nat.lt_of_le_of_lt h2 (Nat.pow_lt_pow_right (by decide) (by have := Nat.mul_le_mul_left b (show i ≤ k by omega); omega))
      have e : b * (k + 1) = b * k + b := by rw [Nat.mul_add, Nat.mul_one]
      walk_at "vx"
      refine VF.y_I (wide_mul (a := b * k + 1) (b := b) (by rw [Int.natAbs_natCast]; exact h1) (by rw [Int.natAbs_natCast]; exact ha) (by omega) hb (by omega)) ?_
      walk_at "vx"
      exact ⟨rfl, _, by rw [Nat.pow_succ, Int.natCast_mul]⟩
    · rintro τ n' ⟨rfl, o, rfl⟩
      rw [rngD_len, Int.toNat_natCast]
      walk_at "vx"
      exact hq
theorem sc__times_divided : FnScope ["number", "prime", "times"] ["number", "prime"] (defScope s__times_divided) := ⟨rfl, rfl, rfl, by decide +kernel, rfl, by decide +kernel, by decide +kernel⟩
theorem v__times_divided (T : TT K mg) : FnOk P w K mg base (L2.CX P w) 1 (He.ga K "_times_divided") (fdOf K ("_times_divided", none)) ["number", "prime"] (liftSp K (Cs K) sTimes) := by
  refine v_ok (F__times_divided T) sc__times_divided (by decide) (by decide) ?_ (fun cdv A outer s H W ds n Q' hC hE hr h => ⟨_, (vss_cons (vs_set (ps_set (i := 2) sc__times_divided.nd rfl (Or.inl rfl) (ve_int pe_int)))
  (vss_cons (vs_while (passes_of rfl) (vt_cmp (op_eqU K hr.units) d_eq (ve_op op_mod d_I (ve_var (pv 0)) (ve_var (pv 1))) (ve_int pe_int) (nomark _)) (vss_cons (vs_set (ps_set (i := 0) sc__times_divided.nd rfl (Or.inl rfl) (ve_op op_fdivW d_I (ve_var (pv 0)) (ve_var (pv 1)))))
  (vss_one (vs_aug (ps_aug (i := 2) sc__times_divided.nd rfl (Or.inl rfl) (ve_int pe_int) ip_add)))))
  (vss_one (vs_ret (ps_ret (ve_var (pv 2))))))), ?_⟩)
  · rintro ds n Q E ⟨p, v, r, rfl, _⟩; rfl
  · obtain ⟨p, v, r, rfl, hp, hp2, hr0, hc, hq⟩ := h
    walk_at "vin"
    walk_at "vy"
    refine ⟨fun m τ n' => n' = n ∧ m ≤ v ∧ τ = [some (.d (.int (p ^ m * r : Nat))), some (.d (.int p)), some (.d (.int (v - m : Int)))], ⟨v, rfl, Nat.le_refl _, by rw [Int.sub_self]⟩, ?_⟩
    rintro m τ n' ⟨rfl, hm, rfl⟩
    walk_at "vy"
    cases m with
    | zero =>
      refine BF.x_iteF (decide_eq_false fun h => ?_) ?_
      · rw [Nat.pow_zero, Nat.one_mul, ← Int.natCast_emod] at h
        have d : p ∣ r := Nat.dvd_of_mod_eq_zero (by omega)
        have := Nat.Coprime.eq_one_of_dvd hc d
        omega
      · dsimp only
        walk_at "vy"
        rw [show ((v : Int) - (0 : Nat)) = v by omega]
        exact hq
    | succ m =>
      have e : p ^ (m + 1) * r = p * (p ^ m * r) := by rw [Nat.pow_succ']; exact Nat.mul_assoc ..
      refine BF.x_iteT (decide_eq_true ?_) ?_
      · rw [e, ← Int.natCast_emod, Nat.mul_mod_right]
        rfl
      · walk_at "vy"
        have e2 : (((p ^ (m + 1) * r : Nat) : Int) / (p : Int)) = ((p ^ m * r : Nat) : Int) := by
          rw [e, ← Int.natCast_ediv, Nat.mul_div_cancel_left _ (by omega)]
        exact ⟨m, by omega, rfl, by omega, by rw [e2, show ((v : Int) - ((m + 1 : Nat) : Int) + 1) = v - m by omega]⟩
theorem sc_word_index : FnScope ["word", "signs", "index", "sign"] ["word", "signs"] (defScope s_word_index) := ⟨rfl, rfl, rfl, by decide +kernel, rfl, by decide +kernel, by decide +kernel⟩
theorem v_word_index (T : TT K mg) : FnOk P w K mg base (L2.CX P w) 1 (He.ga K "word_index") (fdOf K ("word_index", none)) ["word", "signs"] (liftSp K (Cs K) sWidx) := by
  refine v_ok (F_word_index T) sc_word_index (by decide) (by decide) ?_ (fun cdv A outer s H W ds n Q' hC hE hr h => ⟨_, (vss_cons (vs_set (ps_set (i := 2) sc_word_index.nd rfl (Or.inl rfl) (ve_int pe_int)))
  (vss_cons (vs_for (passes_of rfl) rfl (vi_tup rfl (ve_var (pv 0))) (vg_name (pg_name (i := 3) sc_word_index.nd rfl (Or.inl rfl))) (vss_one (vs_set (ps_set (i := 2) sc_word_index.nd rfl (Or.inl rfl) (ve_op (op_addD K) d_add (ve_op op_mulW d_I (ve_var (pv 2)) (ve_var (pv 1))) (ve_var (pv 3)))))))
  (vss_one (vs_ret (ps_ret (ve_var (pv 2))))))), ?_⟩)
  · rintro ds n Q E ⟨xs, s, rfl, _⟩; rfl
  · obtain ⟨xs, s, rfl, hs, hl, hx, hq⟩ := h
    walk_at "vin"
    walk_at "vy"
    refine VF.y_loop (fun i τ n' => n' = n ∧ ∃ o, τ = [some (.d (.tup (nD xs))), some (.d (.int s)), some (.d (.int (widx s (xs.take i) : Nat))), o]) ⟨rfl, none, rfl⟩ ?_ ?_
    · rintro i d τ n' hd ⟨rfl, o, rfl⟩
      have hi : i < xs.length := by
        have := (List.getElem?_eq_some_iff.mp hd).1
        rwa [nD_len] at this
      have ed : d = .int (xs[i] : Nat) := by
        unfold nD at hd
        rw [List.getElem?_map, List.getElem?_eq_getElem hi] at hd
        exact (Option.some.inj hd).symm
      subst ed
      have hb : widx s (xs.take i) < 2 ^ 601 := by
        have h1 := widx_lt (s := s) (xs := xs.take i) fun x hm => hx x (List.mem_of_mem_take hm)
        have h2 := pow_bd (s := s) (k := (xs.take i).length) (n := 100) hs (by rw [List.length_take]; omega)
        exact Nat.lt_of_lt_of_le h1 (Nat.le_trans h2 (Nat.pow_le_pow_right (by decide) (by decide)))
      have e : widx s (xs.take (i + 1)) = widx s (xs.take i) * s + xs[i] := by
        rw [List.take_succ, List.getElem?_eq_getElem hi]
        exact widx_push ..
      walk_at "vy"
      refine VF.y_I (wide_mul (a := 601) (b := 7) (by rw [Int.natAbs_natCast]; exact hb) (by rw [Int.natAbs_natCast]; exact Nat.lt_of_le_of_lt hs (by decide)) (by decide) (by decide) (by decide)) ?_
      walk_at "vy"
      exact ⟨rfl, _, by rw [e, Int.natCast_add, Int.natCast_mul]⟩
    · rintro τ n' ⟨rfl, o, rfl⟩
      rw [nD_len, List.take_length]
      walk_at "vy"
      exact hq
theorem sc_digits : FnScope ["index", "length", "signs", "backwards", "_"] ["index", "length", "signs"] (defScope s_digits) := ⟨rfl, rfl, rfl, by decide +kernel, rfl, by decide +kernel, by decide +kernel⟩
theorem v_digits (T : TT K mg) : FnOk P w K mg base (L2.CX P w) 1 (He.ga K "digits") (fdOf K ("digits", none)) ["index", "length", "signs"] (liftSp K (Cs K) sDig) := by
  refine v_ok (F_digits T) sc_digits (by decide) (by decide) ?_ (fun cdv A outer s H W ds n Q' hC hE hr h => ⟨_, (vss_cons (vs_setO (ps_set (i := 3) sc_digits.nd rfl (Or.inl rfl) (vo_lst va_nil)))
  (vss_cons (vs_for (passes_of rfl) rfl (vi_rng1 (pi_range1 (by rfl) (T.free "range" rfl) (va_cons (ve_var (pv 1)) va_nil))) (vg_name (pg_name (i := 4) sc_digits.nd rfl (Or.inl rfl))) (vss_cons (vs_app (ps_expr (pe_bm PySem.F.plainAttrs_list PySem.F.slot_list_append PySem.F.type_list_append mt_append (pv 3) (va_cons (ve_op op_mod d_I (ve_var (pv 0)) (ve_var (pv 2))) va_nil))))
  (vss_one (vs_set (ps_set (i := 0) sc_digits.nd rfl (Or.inl rfl) (ve_op op_fdivW d_I (ve_var (pv 0)) (ve_var (pv 2))))))))
  (vss_one (vs_ret (ps_ret (ve_cb (pe_callTy (call_tupLTK K) (by rfl) (T.free "tuple" rfl) boot_tuple (va_cons (ve_revL (pe_revL (ve_var (pv 3)))) va_nil)) d_tuple)))))), ?_⟩)
  · rintro ds n Q E ⟨t, k, s, rfl, _⟩; rfl
  · obtain ⟨t, k, s, rfl, hs1, hs, hk, hq⟩ := h
    walk_at "vin"
    walk_at "vy"
    refine VF.y_loop (fun i τ n' => n' = n ∧ ∃ o, τ = [some (.d (.int (t / s ^ i : Nat))), some (.d (.int k)), some (.d (.int s)), some (.own (nD (bd s t i))), o]) ⟨rfl, none, by rw [Nat.pow_zero, Nat.div_one]; rfl⟩ ?_ ?_
    · rintro i d τ n' hd ⟨rfl, o, rfl⟩
      have hi : i < k := by
        have := (List.getElem?_eq_some_iff.mp hd).1
        rw [rngD_len] at this
        omega
      walk_at "vy"
      refine VF.y_app2 rfl (by rw [nD_len, bd_len]; omega) ?_
      walk_at "vy"
      have e1 : t / s ^ i / s = t / s ^ (i + 1) := by rw [Nat.div_div_eq_div_mul, ← Nat.pow_succ]
      have e2 : nD (bd s t i) ++ [VF.DV.int ((t / s ^ i : Nat) % (s : Int))] = nD (bd s t (i + 1)) := by
        show _ = nD (bd s t i ++ [t / s ^ i % s])
        unfold nD
        rw [List.map_append, ← Int.natCast_emod]
        rfl
      exact ⟨rfl, _, by rw [← Int.natCast_ediv, e1, e2]⟩
    · rintro τ n' ⟨rfl, o, rfl⟩
      rw [rngD_len, Int.toNat_natCast]
      walk_at "vy"
      rw [show (nD (bd s t k)).reverse = nD (dg s k t) from (List.map_reverse ..).symm]
      exact hq
theorem y_pow {a k : Nat} (b : Nat) {n : Int} {Q : VF.DV → Int → Prop} {E : XV} (h1 : a < 2 ^ b) (h2 : 0 < b) (h3 : b * (k + 1) ≤ 900000) (h4 : k ≤ 100000) (q : Q (.int (a ^ k : Nat)) n) : sPow ([.int a, .int k] ++ []) n Q E := ⟨a, k, b, rfl, h1, h2, h3, h4, q⟩
theorem y_whole {d : VF.DV} {n : Int} {Q : VF.DV → Int → Prop} {E : XV} (h : Pl 8 d) (q : Q (.bl (wholeB d)) n) : sWhole ([d] ++ []) n Q E := ⟨d, rfl, h, q⟩
theorem y_num {d : VF.DV} {lo hi n : Int} {Q : VF.DV → Int → Prop} {E : XV} (h : Pl 8 d) (q : Q (.bl (numB d lo hi)) n) : sNum ([d, .int lo, .int hi] ++ []) n Q E := ⟨d, lo, hi, rfl, h, q⟩
theorem y_isWord {d : VF.DV} {s n : Int} {Q : VF.DV → Int → Prop} {E : XV} (h : Pl 8 d) (q : Q (.bl (wordB d (min s 64))) n) : sIsWord ([d, .int s] ++ []) n Q E := ⟨d, s, rfl, h, q⟩
theorem y_times {p v r : Nat} {i : Int} {n : Int} {Q : VF.DV → Int → Prop} {E : XV} (e : i = (p ^ v * r : Nat)) (h1 : 1 < p) (h2 : p ≤ 64) (h3 : 0 < r) (h4 : Nat.Coprime p r) (q : Q (.int v) n) : sTimes ([.int i, .int p] ++ []) n Q E := ⟨p, v, r, by rw [e]; rfl, h1, h2, h3, h4, q⟩
theorem y_widx {xs : List Nat} {s : Nat} {n : Int} {Q : VF.DV → Int → Prop} {E : XV} (h1 : s ≤ 64) (h2 : xs.length ≤ 100) (h3 : ∀ x ∈ xs, x < s) (q : Q (.int (widx s xs : Nat)) n) : sWidx ([.tup (nD xs), .int s] ++ []) n Q E := ⟨xs, s, rfl, h1, h2, h3, q⟩
theorem y_dig {t k s : Nat} {n : Int} {Q : VF.DV → Int → Prop} {E : XV} (h1 : 1 ≤ s) (h2 : s ≤ 64) (h3 : k ≤ 100) (q : Q (.tup (nD (dg s k t))) n) : sDig ([.int t, .int k, .int s] ++ []) n Q E := ⟨t, k, s, rfl, h1, h2, h3, q⟩
theorem pow_pos' {s k : Nat} (h : 1 ≤ s) : 1 ≤ s ^ k := Nat.pow_pos (by omega)
theorem sc_word_at : FnScope ["index", "length", "signs"] ["index", "length", "signs"] (defScope s_word_at) := ⟨rfl, rfl, rfl, by decide +kernel, rfl, by decide +kernel, by decide +kernel⟩
theorem v_word_at (T : TT K mg) : FnOk P w K mg base (L2.CX P w) 4 (He.ga K "word_at") (fdOf K ("word_at", none)) ["index", "length", "signs"] (liftSp K (Cs K) sWordAt) := by
  refine v_ok (F_word_at T) sc_word_at (by decide) (by decide) ?_ (fun cdv A outer s H W ds n Q' hC hE hr h => ⟨_, (vss_cons (vs_if (vt_not (vt_val (ve_call hC hE (pe_call (v_is_number T) (hr.mono (by decide)) (by rfl) (T.glo "is_number" rfl) (F_is_number T).kp (B_is_number T) .nil (passes_call (takes_of rfl rfl rfl rfl) (fun _ _ _ _ h => h)) (va_cons (ve_var (pv 0)) (va_cons (ve_int pe_int) (va_cons (ve_op op_sub d_I0 (ve_call hC hE (pe_call (v_power_of T) (hr.mono (by decide)) (by rfl) (T.glo "power_of" rfl) (F_power_of T).kp (B_power_of T) .nil (passes_call (takes_of rfl rfl rfl rfl) (fun _ _ _ _ h => h)) (va_cons (ve_var (pv 2)) (va_cons (ve_var (pv 1)) va_nil))) (fun _ _ _ => .nil)) (ve_int pe_int)) va_nil)))) (fun _ _ _ => .nil)))) (vss_one (vs_raise (ns := nsN) (gd := gdN) hE (ps_raise rfl (takes_of rfl rfl rfl rfl) (pmk_ex (by decide) (xInvalidNumber T).oex (xInvalidNumber T).ini (xInvalidNumber T).fun_ (ok_InvalidNumber___init__ T) (hr.mono (by decide)) (B_InvalidNumber___init__ T) pass0 (by rfl) (T.glo "InvalidNumber" rfl) (va_cons (ve_var (pv 0)) va_nil))) raise_N)) vss_nil)
  (vss_one (vs_ret (ps_ret (ve_call hC hE (pe_call (v_digits T) (hr.mono (by decide)) (by rfl) (T.glo "digits" rfl) (F_digits T).kp (B_digits T) .nil (passes_call (takes_of rfl rfl rfl rfl) (fun _ _ _ _ h => h)) (va_cons (ve_var (pv 0)) (va_cons (ve_var (pv 1)) (va_cons (ve_var (pv 2)) va_nil)))) (fun _ _ _ => .nil)))))), ?_⟩)
  · rintro ds n Q E ⟨d, k, s, rfl, _⟩; rfl
  · obtain ⟨d, k, s, rfl, hp, h1, h2, hk, hok, hbad⟩ := h
    have hs : s < 2 ^ 7 := by omega
    have p1 := pow_pos' (k := k) h1
    walk_at "vin"
    walk_at "vy"
    refine y_pow 7 hs (by decide) (by omega) (by omega) ?_
    walk_at "vy"
    refine y_num hp ?_
    walk_at "vy"
    cases e : numB d 0 ((s ^ k : Nat) - 1) with
    | false =>
      walk_at "vy"
      exact ⟨rfl, hbad e⟩
    | true =>
      walk_at "vy"
      cases d with
      | int i =>
        have e2 : (decide (0 ≤ i) && decide (i ≤ ((s ^ k : Nat) : Int) - 1)) = true := e
        rw [Bool.and_eq_true, decide_eq_true_eq, decide_eq_true_eq] at e2
        obtain ⟨t, rfl⟩ := nat_of e2.1
        refine y_dig h1 h2 hk ?_
        walk_at "vy"
        exact hok t rfl (by omega)
      | _ => cases e
theorem y_wordAt {d : VF.DV} {k s : Nat} {n : Int} {Q : VF.DV → Int → Prop} {E : XV} (h0 : Pl 8 d) (h1 : 1 ≤ s) (h2 : s ≤ 64) (h3 : k ≤ 100) (q1 : ∀ t : Nat, d = .int t → t < s ^ k → Q (.tup (nD (dg s k t))) n) (q2 : numB d 0 ((s ^ k : Nat) - 1) = false → E "InvalidNumber" nsN [.str "InvalidNumber", d] n) : sWordAt ([d, .int k, .int s] ++ []) n Q E := ⟨d, k, s, rfl, h0, h1, h2, h3, q1, q2⟩
end
end BF
/-! ## Ratios, by data -/
namespace BF
open PySem PySem.Spec PyProof.Rows L2 VF
def rD (t b : Nat) : VF.DV := .ins "Ratio" ["top", "bottom"] [.int t, .int b]
def geB (d : VF.DV) (lo : Int) : Bool := match d with
  | .int i => decide (lo ≤ i)
  | _ => false
def prsI : List Int := [2, 3, 5, 7, 11, 13, 17, 19, 23, 29, 31, 37, 41, 43, 47, 53, 59, 61]
def primeB (d : VF.DV) : Bool := match d with
  | .int i => prsI.contains i
  | _ => false
def tN (n : Nat) : Str := (toString ((n : Nat) : Int) : String)
def rStr (t b : Nat) : Str := if b = 1 then tN t else tN t ++ "/" ++ tN b
def rRep (t b : Nat) : Str := "Ratio(" ++ tN t ++ ", " ++ tN b ++ ")"
def invN (d : VF.DV) : List VF.DV := [.str "InvalidNumber", d]
def sRInit : ISp := fun ds n Q E => ∃ x y, ds = [x, y] ∧ Pl 8 x ∧ Pl 8 y ∧ (geB x 0 = false → E "InvalidNumber" nsN (invN x) n) ∧ (geB x 0 = true → geB y 1 = false → E "InvalidNumber" nsN (invN y) n) ∧
  ∀ i j : Int, x = .int i → y = .int j → 0 ≤ i → 1 ≤ j → Nat.gcd i.natAbs j.natAbs < 2 ^ 8999 ∧ Q ["top", "bottom"] [.int (i / Nat.gcd i.natAbs j.natAbs), .int (j / Nat.gcd i.natAbs j.natAbs)] n
def sREq : DSp := fun ds n Q _ => ∃ t b o, ds = [rD t b, o] ∧ ((∃ t' b', o = rD t' b' ∧ Q (.bl (decide (t = t') && decide (b = b'))) n) ∨ (((∃ i, o = .int i) ∨ (∃ z, o = .str z) ∨ ∃ xs, o = .tup xs) ∧ Q (.bl false) n))
def sRMul : DSp := fun ds n Q _ => ∃ t b t' b' g T B : Nat, ds = [rD t b, rD t' b'] ∧ t < 2 ^ 100000 ∧ b < 2 ^ 100000 ∧ t' < 2 ^ 100000 ∧ b' < 2 ^ 100000 ∧ t * t' = g * T ∧ b * b' = g * B ∧ 0 < g ∧ g < 2 ^ 8999 ∧ 0 < B ∧ Nat.Coprime T B ∧ Q (rD T B) n
def sRInv : DSp := fun ds n Q E => ∃ t b : Nat, ds = [rD t b] ∧ 0 < b ∧ Nat.Coprime t b ∧ (t = 0 → E "InvalidNumber" nsN (invN (.int 0)) n) ∧ (0 < t → Q (rD b t) n)
def sRRaised : DSp := fun ds n Q E => ∃ (t b m : Nat) (k : Int), ds = [rD t b, .int k] ∧ 0 < b ∧ Nat.Coprime t b ∧ t < 2 ^ m ∧ b < 2 ^ m ∧ 0 < m ∧ m * (k.natAbs + 1) ≤ 900000 ∧ k.natAbs ≤ 100000 ∧
  (0 ≤ k → Q (rD (t ^ k.natAbs) (b ^ k.natAbs)) n) ∧ (k < 0 → t = 0 → E "InvalidNumber" nsN (invN (.int 0)) n) ∧ (k < 0 → 0 < t → Q (rD (b ^ k.natAbs) (t ^ k.natAbs)) n)
def sRPower : DSp := fun ds n Q E => ∃ (t b : Nat) (d : VF.DV), ds = [rD t b, d] ∧ Pl 8 d ∧ (primeB d = false → E "InvalidNumber" nsN (invN d) n) ∧ (primeB d = true → t = 0 → E "InvalidNumber" nsN (invN (.int 0)) n) ∧
  (∀ p : Nat, d = .int p → primeB d = true → 0 < t → 1 < p → p ≤ 64 → ∃ v r v' r' : Nat, t = p ^ v * r ∧ b = p ^ v' * r' ∧ 0 < r ∧ 0 < r' ∧ Nat.Coprime p r ∧ Nat.Coprime p r' ∧ Q (.int ((v : Int) - (v' : Int))) n)
def sRStr : DSp := fun ds n Q _ => ∃ t b : Nat, ds = [rD t b] ∧ t < 10 ^ 4300 ∧ b < 10 ^ 4300 ∧ Q (.str (rStr t b)) n
def sRRep : DSp := fun ds n Q _ => ∃ t b : Nat, ds = [rD t b] ∧ t < 10 ^ 4300 ∧ b < 10 ^ 4300 ∧ Q (.str (rRep t b)) n
theorem tN_len {n : Nat} (h : n < 10 ^ 4300) : (tN n).length ≤ 4301 := by
  unfold tN
  rw [PySem.ofString_length]
  exact int_text_length_le10 (k := 4300) (by decide) (by rw [Int.natAbs_natCast]; exact h)
section
variable {P : Program} {w : World} {K : PySem.W.Frag} {mg : Str → Option Value} {base : Heap}
theorem mg_gcd (T : TT K mg) : mg "gcd" = some (.builtin "math.gcd") := T.gl _ _ (of_decide_eq_true (m_3 T))
theorem sq_prs (T : TT K mg) (H : Hp) : SqT K H (He.ga K "PRIMES") (prsI.map V.int) := He.tupB_ok (m_2 T) H
theorem aT (T : TT K mg) : AtOk K "Ratio" "top" := ⟨T.cls "Ratio" rfl, T.noat "Ratio" "top" rfl⟩
theorem aB (T : TT K mg) : AtOk K "Ratio" "bottom" := ⟨T.cls "Ratio" rfl, T.noat "Ratio" "bottom" rfl⟩
theorem sc_Ratio___init__ : FnScope ["self", "top", "bottom", "common"] ["self", "top", "bottom"] (defScope s_Ratio___init__) := ⟨rfl, rfl, rfl, by decide +kernel, rfl, by decide +kernel, by decide +kernel⟩
theorem v_Ratio___init__ (T : TT K mg) : FnOk P w K mg base (L2.CX P w) 3 (He.ma K (He.ga K "Ratio") "__init__") (fdOf K ("Ratio", some "__init__")) ["self", "top", "bottom"] (liftSpI K (Cs K) "Ratio" sRInit) := by
  refine v_okI (F_Ratio___init__ T) sc_Ratio___init__ (by decide) (by decide) ?_ (fun cdv A outer s H W ds n Q' z hC hE hr h => ⟨_, (vss_cons (vs_if (PW.pt (vw_or (vt_not (vt_val (ve_call hC hE (pe_call (v_is_whole T) (hr.mono (by decide)) (by rfl) (T.glo "is_whole" rfl) (F_is_whole T).kp (B_is_whole T) .nil (passes_call (takes_of rfl rfl rfl rfl) (fun _ _ _ _ h => h)) (va_cons (ve_var (pv 1)) va_nil)) (fun _ _ _ => .nil)))) (vw_or1 (vt_cmp op_lt d_IB (ve_var (pv 1)) (ve_int pe_int) (nomark _))))) (vss_one (vs_raise (ns := nsN) (gd := gdN) hE (ps_raise rfl (takes_of rfl rfl rfl rfl) (pmk_ex (by decide) (xInvalidNumber T).oex (xInvalidNumber T).ini (xInvalidNumber T).fun_ (ok_InvalidNumber___init__ T) (hr.mono (by decide)) (B_InvalidNumber___init__ T) pass0 (by rfl) (T.glo "InvalidNumber" rfl) (va_cons (ve_var (pv 1)) va_nil))) raise_N)) vss_nil)
  (vss_cons (vs_if (PW.pt (vw_or (vt_not (vt_val (ve_call hC hE (pe_call (v_is_whole T) (hr.mono (by decide)) (by rfl) (T.glo "is_whole" rfl) (F_is_whole T).kp (B_is_whole T) .nil (passes_call (takes_of rfl rfl rfl rfl) (fun _ _ _ _ h => h)) (va_cons (ve_var (pv 2)) va_nil)) (fun _ _ _ => .nil)))) (vw_or1 (vt_cmp op_lt d_IB (ve_var (pv 2)) (ve_int pe_int) (nomark _))))) (vss_one (vs_raise (ns := nsN) (gd := gdN) hE (ps_raise rfl (takes_of rfl rfl rfl rfl) (pmk_ex (by decide) (xInvalidNumber T).oex (xInvalidNumber T).ini (xInvalidNumber T).fun_ (ok_InvalidNumber___init__ T) (hr.mono (by decide)) (B_InvalidNumber___init__ T) pass0 (by rfl) (T.glo "InvalidNumber" rfl) (va_cons (ve_var (pv 2)) va_nil))) raise_N)) vss_nil)
  (vss_cons (vs_set (ps_set (i := 3) sc_Ratio___init__.nd rfl (Or.inl rfl) (ve_cb (pe_callBfun cr_gcd (by rfl) (mg_gcd T) (va_cons (ve_var (pv 1)) (va_cons (ve_var (pv 2)) va_nil))) d_gcd)))
  (vss_cons (vs_setF (ps_fldE K (pv 0) (ve_op op_fdivW d_I (ve_var (pv 1)) (ve_var (pv 3)))))
  (vss_one (vs_setF (ps_fldE K (pv 0) (ve_op op_fdivW d_I (ve_var (pv 2)) (ve_var (pv 3)))))))))), ?_⟩)
  · rintro ds n Q E ⟨a, b, rfl, _⟩; rfl
  · obtain ⟨x, y, rfl, px, py, h1, h2, hq⟩ := h
    have a1 := aT T
    have a2 := aB T
    unfold startI
    walk_at "vin"
    walk_at "vy"
    refine y_whole px ?_
    walk_at "vy"
    cases ex : geB x 0 with
    | false =>
      have q := h1 ex
      cases x with
      | int i =>
        have e : decide (0 ≤ i) = false := ex
        walk_at "vy"
        rw [decide_eq_true (show i < 0 by have := of_decide_eq_false e; omega)]
        walk_at "vy"
        exact ⟨rfl, q⟩
      | _ =>
        walk_at "vy"
        exact ⟨rfl, q⟩
    | true =>
      cases x with
      | int i =>
        have e : 0 ≤ i := of_decide_eq_true ex
        walk_at "vy"
        rw [decide_eq_false (show ¬ i < 0 by omega)]
        walk_at "vy"
        refine y_whole py ?_
        walk_at "vy"
        cases ey : geB y 1 with
        | false =>
          have q := h2 ex ey
          cases y with
          | int j =>
            have e : decide (1 ≤ j) = false := ey
            walk_at "vy"
            rw [decide_eq_true (show j < 1 by have := of_decide_eq_false e; omega)]
            walk_at "vy"
            exact ⟨rfl, q⟩
          | _ =>
            walk_at "vy"
            exact ⟨rfl, q⟩
        | true =>
          cases y with
          | int j =>
            have e2 : 1 ≤ j := of_decide_eq_true ey
            obtain ⟨gl, q⟩ := hq i j rfl rfl e e2
            obtain ⟨g, hg⟩ : ∃ g, Nat.gcd i.natAbs j.natAbs = g := ⟨_, rfl⟩
            have g0 : 0 < Nat.gcd i.natAbs j.natAbs := Nat.gcd_pos_of_pos_right _ (by omega)
            rw [hg] at gl q g0
            have cd : ∀ z : Int, CDivW z (g : Int) := fun z => wide_div (by omega) (by rw [Int.natAbs_natCast]; exact gl) (by decide) (by decide)
            walk_at "vy"
            rw [decide_eq_false (show ¬ j < 1 by omega)]
            walk_at "vy"
            refine VF.y_gcd hg ?_
            walk_at "vy"
            refine VF.y_setF ?_
            walk_at "vy"
            refine VF.y_I (cd _) ?_
            refine VF.y_setF2 rfl a1 (by decide) ?_
            walk_at "vy"
            dsimp only
            refine VF.y_setF ?_
            walk_at "vy"
            refine VF.y_I (cd _) ?_
            refine VF.y_setF2 rfl a2 (by decide) ?_
            walk_at "vy"
            dsimp only
            exact ⟨_, _, rfl, q⟩
          | _ => cases ey
      | _ => cases ex
end
end BF
/-! ## Ratios' methods, by data -/
namespace BF
open PySem PySem.Spec PyProof.Rows L2 VF
theorem lt_pow9 {g : Nat} (h : g ≤ 1) : g < 2 ^ 8999 := Nat.lt_of_le_of_lt h (Nat.one_lt_two_pow (by decide))
/-- Ratio(g * t, g * b), t and b without a common factor -/
theorem rinit_of {x y : Int} {g t b : Nat} {n : Int} {Q : List Str → List VF.DV → Int → Prop} {E : XV} (e1 : x = (g * t : Nat)) (e2 : y = (g * b : Nat)) (g0 : 0 < g) (g1 : g < 2 ^ 8999) (b0 : 0 < b) (hc : Nat.Coprime t b) (q : Q ["top", "bottom"] [.int t, .int b] n) : sRInit ([.int x, .int y] ++ []) n Q E := by
  have hb : 0 < g * b := Nat.mul_pos g0 b0
  refine ⟨_, _, rfl, .int, .int, fun h => ?_, fun _ h => ?_, fun i j ei ej h0 h1 => ?_⟩
  · have h : decide (0 ≤ x) = false := h
    have := of_decide_eq_false h
    omega
  · have h : decide (1 ≤ y) = false := h
    have := of_decide_eq_false h
    omega
  · injection ei with ei
    injection ej with ej
    have hg : Nat.gcd i.natAbs j.natAbs = g := by
      rw [← ei, ← ej, e1, e2, Int.natAbs_natCast, Int.natAbs_natCast, Nat.gcd_mul_left, hc.gcd_eq_one, Nat.mul_one]
    rw [hg, ← ei, ← ej, e1, e2, ← Int.natCast_ediv, ← Int.natCast_ediv, Nat.mul_div_cancel_left _ g0, Nat.mul_div_cancel_left _ g0]
    exact ⟨g1, q⟩
section
variable {P : Program} {w : World} {K : PySem.W.Frag} {mg : Str → Option Value} {base : Heap}
theorem B_init2 (T : TT K mg) : ∃ ds, Vals ([] : List V) ds ∧ Binds K (fdOf K ("Ratio", some "__init__")) ["self", "top", "bottom"] ds :=
  (F_Ratio___init__ T).binds1 3 1 (by simp [He.DefD.dvs, d_Ratio___init__]) rfl fun _ _ _ _ _ _ _ us its h1 h2 => match us, its, h1, h2 with | [_, _, _], [_], _, _ => ⟨_, rfl, rfl⟩
theorem B_init1 (T : TT K mg) : ∃ ds, Vals [V.int 1] ds ∧ Binds K (fdOf K ("Ratio", some "__init__")) ["self", "top", "bottom"] ds :=
  (F_Ratio___init__ T).binds1 2 0 (by simp [He.DefD.dvs, d_Ratio___init__]) rfl fun _ _ _ _ _ _ _ us its h1 h2 => match us, its, h1, h2 with | [_, _], [_], _, _ => ⟨_, rfl, rfl⟩
theorem kit_R (T : TT K mg) {ns : List Str} {es : List VF.DV} : KitD K (.ins "Ratio" ns es) "Ratio" true := kitD_own (m_5 T) (T.cls "Ratio" rfl)
theorem kit_i (T : TT K mg) {i : Int} : KitD K (.int i) "Ratio" false := kitD_ty rfl (of_decide_eq_true (m_45 T))
theorem kit_s (T : TT K mg) {i : Str} : KitD K (.str i) "Ratio" false := kitD_ty rfl (of_decide_eq_true (m_46 T))
theorem kit_t (T : TT K mg) {i : List VF.DV} : KitD K (.tup i) "Ratio" false := kitD_ty rfl (of_decide_eq_true (m_47 T))
theorem sc_Ratio___eq__ : FnScope ["self", "other"] ["self", "other"] (defScope s_Ratio___eq__) := ⟨rfl, rfl, rfl, by decide +kernel, rfl, by decide +kernel, by decide +kernel⟩
theorem v_Ratio___eq__ (T : TT K mg) : FnOk P w K mg base (L2.CX P w) 1 (He.ma K (He.ga K "Ratio") "__eq__") (fdOf K ("Ratio", some "__eq__")) ["self", "other"] (liftSp K (Cs K) sREq) := by
  refine v_ok (F_Ratio___eq__ T) sc_Ratio___eq__ (by decide) (by decide) ?_ (fun cdv A outer s H W ds n Q' hC hE hr h => ⟨_, (vss_one (vs_ret (ps_ret (ve_and (ve_cb (pe_callB (call_isiK' K) (by rfl) (T.free "isinstance" rfl) boot_isinstance (va_cons (ve_var (pv 1)) (va_cons (ve_cls (pe_glob (v := .ref _) (by rfl) (T.glo "Ratio" rfl) rfl)) va_nil))) d_isiC) (ve_and (ve_cmp (op_eqU K hr.units) d_eq (ve_fld (pe_fldK K (ve_var (pv 0)))) (ve_fld (pe_fldK K (ve_var (pv 1)))) (nomark _)) (pe_one (ve_cmp (op_eqU K hr.units) d_eq (ve_fld (pe_fldK K (ve_var (pv 0)))) (ve_fld (pe_fldK K (ve_var (pv 1)))) (nomark _)))))))), ?_⟩)
  · rintro ds n Q E ⟨t, b, o, rfl, _⟩; rfl
  · obtain ⟨t, b, o, rfl, h⟩ := h
    have a1 := aT T
    have a2 := aB T
    unfold rD
    rcases h with ⟨t', b', rfl, hq⟩ | ⟨ho, hq⟩
    · unfold rD
      walk_at "vin"
      walk_at "vy"
      refine y_isiC (kit_R T) ?_
      walk_at "vy"
      have e1 : decide ((t : Int) = t') = decide (t = t') := decide_eq_decide.mpr (by omega)
      have e2 : decide ((b : Int) = b') = decide (b = b') := decide_eq_decide.mpr (by omega)
      rw [e1]
      refine BF.x_ite (fun h1 => ?_) (fun h1 => ?_)
      · walk_at "vy"
        rw [decide_eq_true h1, Bool.true_and] at hq
        rw [e2]
        exact hq
      · walk_at "vy"
        rw [decide_eq_false h1, Bool.false_and] at hq
        exact hq
    · rcases ho with ⟨i, rfl⟩ | ⟨z, rfl⟩ | ⟨xs, rfl⟩
      · walk_at "vin"
        walk_at "vy"
        refine y_isiC (kit_i T) ?_
        walk_at "vy"
        exact hq
      · walk_at "vin"
        walk_at "vy"
        refine y_isiC (kit_s T) ?_
        walk_at "vy"
        exact hq
      · walk_at "vin"
        walk_at "vy"
        refine y_isiC (kit_t T) ?_
        walk_at "vy"
        exact hq
theorem sc_Ratio___mul__ : FnScope ["self", "other"] ["self", "other"] (defScope s_Ratio___mul__) := ⟨rfl, rfl, rfl, by decide +kernel, rfl, by decide +kernel, by decide +kernel⟩
theorem v_Ratio___mul__ (T : TT K mg) : FnOk P w K mg base (L2.CX P w) 5 (He.ma K (He.ga K "Ratio") "__mul__") (fdOf K ("Ratio", some "__mul__")) ["self", "other"] (liftSp K (Cs K) sRMul) := by
  obtain ⟨ds2, v2, b2⟩ := B_init2 T
  refine v_ok (F_Ratio___mul__ T) sc_Ratio___mul__ (by decide) (by decide) ?_ (fun cdv A outer s H W ds n Q' hC hE hr h => ⟨_, (vss_one (vs_ret (ps_ret (ve_make (cl := "Ratio") hC hE (pe_makeE (T.mkr "Ratio" rfl) (v_Ratio___init__ T) (hr.mono (by decide)) (by rfl) (T.glo "Ratio" rfl) b2 v2 (passes_call (takes_of rfl rfl rfl rfl) (fun _ _ _ _ h => h)) (va_cons (ve_op op_mulW d_I (ve_fld (pe_fldK K (ve_var (pv 0)))) (ve_fld (pe_fldK K (ve_var (pv 1))))) (va_cons (ve_op op_mulW d_I (ve_fld (pe_fldK K (ve_var (pv 0)))) (ve_fld (pe_fldK K (ve_var (pv 1))))) va_nil))) (fun _ _ _ => .nil))))), ?_⟩)
  · rintro ds n Q E ⟨_, _, _, _, _, _, _, rfl, _⟩; rfl
  · obtain ⟨t, b, t', b', g, U, B, rfl, h1, h2, h3, h4, e1, e2, g0, g1, B0, hc, hq⟩ := h
    have a1 := aT T
    have a2 := aB T
    have cm : ∀ {x y : Nat}, x < 2 ^ 100000 → y < 2 ^ 100000 → CMulW (x : Int) (y : Int) := fun h k => wide_mul (a := 100000) (b := 100000) (by rw [Int.natAbs_natCast]; exact h) (by rw [Int.natAbs_natCast]; exact k) (by decide) (by decide) (by decide)
    unfold rD
    walk_at "vin"
    walk_at "vy"
    refine VF.y_I (cm h1 h3) ?_
    walk_at "vy"
    refine VF.y_I (cm h2 h4) ?_
    walk_at "vy"
    exact rinit_of (g := g) (t := U) (b := B) (by rw [← e1, Int.natCast_mul]) (by rw [← e2, Int.natCast_mul]) g0 g1 B0 hc hq
theorem sc_Ratio___invert__ : FnScope ["self"] ["self"] (defScope s_Ratio___invert__) := ⟨rfl, rfl, rfl, by decide +kernel, rfl, by decide +kernel, by decide +kernel⟩
theorem v_Ratio___invert__ (T : TT K mg) : FnOk P w K mg base (L2.CX P w) 5 (He.ma K (He.ga K "Ratio") "__invert__") (fdOf K ("Ratio", some "__invert__")) ["self"] (liftSp K (Cs K) sRInv) := by
  obtain ⟨ds2, v2, b2⟩ := B_init2 T
  refine v_ok (F_Ratio___invert__ T) sc_Ratio___invert__ (by decide) (by decide) ?_ (fun cdv A outer s H W ds n Q' hC hE hr h => ⟨_, (vss_cons (vs_if (vt_cmp (op_eqU K hr.units) d_eq (ve_fld (pe_fldK K (ve_var (pv 0)))) (ve_int pe_int) (nomark _)) (vss_one (vs_raise (ns := nsN) (gd := gdN) hE (ps_raise rfl (takes_of rfl rfl rfl rfl) (pmk_ex (by decide) (xInvalidNumber T).oex (xInvalidNumber T).ini (xInvalidNumber T).fun_ (ok_InvalidNumber___init__ T) (hr.mono (by decide)) (B_InvalidNumber___init__ T) pass0 (by rfl) (T.glo "InvalidNumber" rfl) (va_cons (ve_int pe_int) va_nil))) raise_N)) vss_nil)
  (vss_one (vs_ret (ps_ret (ve_make (cl := "Ratio") hC hE (pe_makeE (T.mkr "Ratio" rfl) (v_Ratio___init__ T) (hr.mono (by decide)) (by rfl) (T.glo "Ratio" rfl) b2 v2 (passes_call (takes_of rfl rfl rfl rfl) (fun _ _ _ _ h => h)) (va_cons (ve_fld (pe_fldK K (ve_var (pv 0)))) (va_cons (ve_fld (pe_fldK K (ve_var (pv 0)))) va_nil))) (fun _ _ _ => .nil)))))), ?_⟩)
  · rintro ds n Q E ⟨_, _, rfl, _⟩; rfl
  · obtain ⟨t, b, rfl, b0, hc, h0, hq⟩ := h
    have a1 := aT T
    have a2 := aB T
    unfold rD
    walk_at "vin"
    walk_at "vy"
    refine BF.x_ite (fun h1 => ?_) (fun h1 => ?_)
    · walk_at "vy"
      exact ⟨rfl, h0 (by omega)⟩
    · walk_at "vy"
      exact rinit_of (g := 1) (t := b) (b := t) (by rw [Nat.one_mul]) (by rw [Nat.one_mul]) (by decide) (lt_pow9 (by decide)) (by omega) hc.symm (hq (by omega))
theorem sc_Ratio_raised : FnScope ["self", "k"] ["self", "k"] (defScope s_Ratio_raised) := ⟨rfl, rfl, rfl, by decide +kernel, rfl, by decide +kernel, by decide +kernel⟩
theorem v_Ratio_raised (T : TT K mg) : FnOk P w K mg base (L2.CX P w) 5 (He.ma K (He.ga K "Ratio") "raised") (fdOf K ("Ratio", some "raised")) ["self", "k"] (liftSp K (Cs K) sRRaised) := by
  obtain ⟨ds2, v2, b2⟩ := B_init2 T
  refine v_ok (F_Ratio_raised T) sc_Ratio_raised (by decide) (by decide) ?_ (fun cdv A outer s H W ds n Q' hC hE hr h => ⟨_, (vss_cons (vs_if (vt_cmp op_ge d_IB (ve_var (pv 1)) (ve_int pe_int) (nomark _)) (vss_one (vs_ret (ps_ret (ve_make (cl := "Ratio") hC hE (pe_makeE (T.mkr "Ratio" rfl) (v_Ratio___init__ T) (hr.mono (by decide)) (by rfl) (T.glo "Ratio" rfl) b2 v2 (passes_call (takes_of rfl rfl rfl rfl) (fun _ _ _ _ h => h)) (va_cons (ve_call hC hE (pe_call (v_power_of T) (hr.mono (by decide)) (by rfl) (T.glo "power_of" rfl) (F_power_of T).kp (B_power_of T) .nil (passes_call (takes_of rfl rfl rfl rfl) (fun _ _ _ _ h => h)) (va_cons (ve_fld (pe_fldK K (ve_var (pv 0)))) (va_cons (ve_var (pv 1)) va_nil))) (fun _ _ _ => .nil)) (va_cons (ve_call hC hE (pe_call (v_power_of T) (hr.mono (by decide)) (by rfl) (T.glo "power_of" rfl) (F_power_of T).kp (B_power_of T) .nil (passes_call (takes_of rfl rfl rfl rfl) (fun _ _ _ _ h => h)) (va_cons (ve_fld (pe_fldK K (ve_var (pv 0)))) (va_cons (ve_var (pv 1)) va_nil))) (fun _ _ _ => .nil)) va_nil))) (fun _ _ _ => .nil))))) vss_nil)
  (vss_cons (vs_if (vt_cmp (op_eqU K hr.units) d_eq (ve_fld (pe_fldK K (ve_var (pv 0)))) (ve_int pe_int) (nomark _)) (vss_one (vs_raise (ns := nsN) (gd := gdN) hE (ps_raise rfl (takes_of rfl rfl rfl rfl) (pmk_ex (by decide) (xInvalidNumber T).oex (xInvalidNumber T).ini (xInvalidNumber T).fun_ (ok_InvalidNumber___init__ T) (hr.mono (by decide)) (B_InvalidNumber___init__ T) pass0 (by rfl) (T.glo "InvalidNumber" rfl) (va_cons (ve_int pe_int) va_nil))) raise_N)) vss_nil)
  (vss_one (vs_ret (ps_ret (ve_make (cl := "Ratio") hC hE (pe_makeE (T.mkr "Ratio" rfl) (v_Ratio___init__ T) (hr.mono (by decide)) (by rfl) (T.glo "Ratio" rfl) b2 v2 (passes_call (takes_of rfl rfl rfl rfl) (fun _ _ _ _ h => h)) (va_cons (ve_call hC hE (pe_call (v_power_of T) (hr.mono (by decide)) (by rfl) (T.glo "power_of" rfl) (F_power_of T).kp (B_power_of T) .nil (passes_call (takes_of rfl rfl rfl rfl) (fun _ _ _ _ h => h)) (va_cons (ve_fld (pe_fldK K (ve_var (pv 0)))) (va_cons (ve_un un_neg d_neg (ve_var (pv 1))) va_nil))) (fun _ _ _ => .nil)) (va_cons (ve_call hC hE (pe_call (v_power_of T) (hr.mono (by decide)) (by rfl) (T.glo "power_of" rfl) (F_power_of T).kp (B_power_of T) .nil (passes_call (takes_of rfl rfl rfl rfl) (fun _ _ _ _ h => h)) (va_cons (ve_fld (pe_fldK K (ve_var (pv 0)))) (va_cons (ve_un un_neg d_neg (ve_var (pv 1))) va_nil))) (fun _ _ _ => .nil)) va_nil))) (fun _ _ _ => .nil))))))), ?_⟩)
  · rintro ds n Q E ⟨_, _, _, _, rfl, _⟩; rfl
  · obtain ⟨t, b, m, k, rfl, b0, hc, ht, hb, m0, mk, kl, q1, q2, q3⟩ := h
    have a1 := aT T
    have a2 := aB T
    unfold rD
    walk_at "vin"
    walk_at "vy"
    refine BF.x_ite (fun h1 => ?_) (fun h1 => ?_)
    · obtain ⟨j, rfl⟩ := nat_of h1
      rw [Int.natAbs_natCast] at mk kl q1
      walk_at "vy"
      refine y_pow m ht m0 mk kl ?_
      walk_at "vy"
      refine y_pow m hb m0 mk kl ?_
      walk_at "vy"
      exact rinit_of (g := 1) (t := t ^ j) (b := b ^ j) (by rw [Nat.one_mul]) (by rw [Nat.one_mul]) (by decide) (lt_pow9 (by decide)) (Nat.pow_pos b0) (hc.pow _ _) (q1 h1)
    · obtain ⟨j, hj⟩ := nat_of (i := -k) (by omega)
      have hj' : k = -(j : Int) := by omega
      subst hj'
      rw [Int.natAbs_neg, Int.natAbs_natCast] at mk kl q3
      walk_at "vy"
      refine BF.x_ite (fun h2 => ?_) (fun h2 => ?_)
      · walk_at "vy"
        exact ⟨rfl, q2 (by omega) (by omega)⟩
      · walk_at "vy"
        rw [Int.neg_neg]
        refine y_pow m hb m0 mk kl ?_
        walk_at "vy"
        rw [Int.neg_neg]
        refine y_pow m ht m0 mk kl ?_
        walk_at "vy"
        exact rinit_of (g := 1) (t := b ^ j) (b := t ^ j) (by rw [Nat.one_mul]) (by rw [Nat.one_mul]) (by decide) (lt_pow9 (by decide)) (Nat.pow_pos (by omega)) (hc.symm.pow _ _) (q3 (by omega) (by omega))
theorem y_raised {t b : Nat} (m : Nat) {k n : Int} {Q : VF.DV → Int → Prop} {E : XV} (b0 : 0 < b) (hc : Nat.Coprime t b) (ht : t < 2 ^ m) (hb : b < 2 ^ m) (m0 : 0 < m) (mk : m * (k.natAbs + 1) ≤ 900000) (kl : k.natAbs ≤ 100000)
    (q1 : 0 ≤ k → Q (rD (t ^ k.natAbs) (b ^ k.natAbs)) n) (q2 : k < 0 → t = 0 → E "InvalidNumber" nsN (invN (.int 0)) n) (q3 : k < 0 → 0 < t → Q (rD (b ^ k.natAbs) (t ^ k.natAbs)) n) : sRRaised (rD t b :: ([.int k] ++ [])) n Q E := ⟨t, b, m, k, rfl, b0, hc, ht, hb, m0, mk, kl, q1, q2, q3⟩
theorem sc_Ratio___pow__ : FnScope ["self", "k"] ["self", "k"] (defScope s_Ratio___pow__) := ⟨rfl, rfl, rfl, by decide +kernel, rfl, by decide +kernel, by decide +kernel⟩
theorem v_Ratio___pow__ (T : TT K mg) : FnOk P w K mg base (L2.CX P w) 6 (He.ma K (He.ga K "Ratio") "__pow__") (fdOf K ("Ratio", some "__pow__")) ["self", "k"] (liftSp K (Cs K) sRRaised) := by
  refine v_ok (F_Ratio___pow__ T) sc_Ratio___pow__ (by decide) (by decide) ?_ (fun cdv A outer s H W ds n Q' hC hE hr h => ⟨_, (vss_one (vs_ret (ps_ret (ve_meth (cl := "Ratio") (m := "raised") hC hE (pe_meth (ve_var (pv 0)) (T.cls "Ratio" rfl) (T.meth "Ratio" "raised" rfl) (v_Ratio_raised T) (hr.mono (by decide)) (B_Ratio_raised T) .nil (passes_call (takes_of rfl rfl rfl rfl) (fun _ _ _ _ h => h)) (va_cons (ve_var (pv 1)) va_nil)) (fun _ _ _ => .nil))))), ?_⟩)
  · rintro ds n Q E ⟨_, _, _, _, rfl, _⟩; rfl
  · have h0 := h
    obtain ⟨t, b, m, k, rfl, _⟩ := h
    unfold rD at h0 ⊢
    walk_at "vin"
    walk_at "vy"
    refine y_meth2 rfl ?_
    walk_at "vy"
    exact h0
end
end BF
/-! ## Ratios: powers, texts; count_ratio -/
namespace BF
open PySem PySem.Spec PyProof.Rows L2 VF
theorem y_meth {c m : Str} {sp : DSp} {dds : List VF.DV} {E' : XV} {wa : WE} {wr : WA} {τ : VF.ST} {n : Int} {Q : VF.DV → VF.ST → Int → Prop} (k : wa τ n fun d τ1 n1 => ∃ ns es, d = .ins c ns es ∧ ns.contains m = false ∧ wr τ1 n1 fun ds τ2 n2 => sp (d :: (ds ++ dds)) n2 (fun f n3 => Q f τ2 n3) E') : wMeth c m sp dds E' wa wr τ n Q := k
section
variable {P : Program} {w : World} {K : PySem.W.Frag} {mg : Str → Option Value} {base : Heap}
theorem sc_Ratio_power : FnScope ["self", "prime"] ["self", "prime"] (defScope s_Ratio_power) := ⟨rfl, rfl, rfl, by decide +kernel, rfl, by decide +kernel, by decide +kernel⟩
theorem v_Ratio_power (T : TT K mg) : FnOk P w K mg base (L2.CX P w) 3 (He.ma K (He.ga K "Ratio") "power") (fdOf K ("Ratio", some "power")) ["self", "prime"] (liftSp K (Cs K) sRPower) := by
  refine v_ok (F_Ratio_power T) sc_Ratio_power (by decide) (by decide) ?_ (fun cdv A outer s H W ds n Q' hC hE hr h => ⟨_, (vss_cons (vs_if (PW.pt (vw_or (vt_not (vt_val (ve_call hC hE (pe_call (v_is_whole T) (hr.mono (by decide)) (by rfl) (T.glo "is_whole" rfl) (F_is_whole T).kp (B_is_whole T) .nil (passes_call (takes_of rfl rfl rfl rfl) (fun _ _ _ _ h => h)) (va_cons (ve_var (pv 1)) va_nil)) (fun _ _ _ => .nil)))) (vw_or1 (vt_cmp (op_notInU K (by have := hr.un; first | omega | (show (A.deeper _).units + 65 < cLine; omega))) d_notin (ve_var (pv 1)) (ve_gtup (by rfl) (T.glo "PRIMES" rfl) (sq_prs T)) (by with_unfolding_all rfl))))) (vss_one (vs_raise (ns := nsN) (gd := gdN) hE (ps_raise rfl (takes_of rfl rfl rfl rfl) (pmk_ex (by decide) (xInvalidNumber T).oex (xInvalidNumber T).ini (xInvalidNumber T).fun_ (ok_InvalidNumber___init__ T) (hr.mono (by decide)) (B_InvalidNumber___init__ T) pass0 (by rfl) (T.glo "InvalidNumber" rfl) (va_cons (ve_var (pv 1)) va_nil))) raise_N)) vss_nil)
  (vss_cons (vs_if (vt_cmp (op_eqU K hr.units) d_eq (ve_fld (pe_fldK K (ve_var (pv 0)))) (ve_int pe_int) (nomark _)) (vss_one (vs_raise (ns := nsN) (gd := gdN) hE (ps_raise rfl (takes_of rfl rfl rfl rfl) (pmk_ex (by decide) (xInvalidNumber T).oex (xInvalidNumber T).ini (xInvalidNumber T).fun_ (ok_InvalidNumber___init__ T) (hr.mono (by decide)) (B_InvalidNumber___init__ T) pass0 (by rfl) (T.glo "InvalidNumber" rfl) (va_cons (ve_int pe_int) va_nil))) raise_N)) vss_nil)
  (vss_one (vs_ret (ps_ret (ve_op op_sub d_I0 (ve_call hC hE (pe_call (v__times_divided T) (hr.mono (by decide)) (by rfl) (T.glo "_times_divided" rfl) (F__times_divided T).kp (B__times_divided T) .nil (passes_call (takes_of rfl rfl rfl rfl) (fun _ _ _ _ h => h)) (va_cons (ve_fld (pe_fldK K (ve_var (pv 0)))) (va_cons (ve_var (pv 1)) va_nil))) (fun _ _ _ => .nil)) (ve_call hC hE (pe_call (v__times_divided T) (hr.mono (by decide)) (by rfl) (T.glo "_times_divided" rfl) (F__times_divided T).kp (B__times_divided T) .nil (passes_call (takes_of rfl rfl rfl rfl) (fun _ _ _ _ h => h)) (va_cons (ve_fld (pe_fldK K (ve_var (pv 0)))) (va_cons (ve_var (pv 1)) va_nil))) (fun _ _ _ => .nil)))))))), ?_⟩)
  · rintro ds n Q E ⟨_, _, _, rfl, _⟩; rfl
  · obtain ⟨t, b, d, rfl, hp, h1, h2, h3⟩ := h
    have a1 := aT T
    have a2 := aB T
    unfold rD
    walk_at "vin"
    walk_at "vy"
    refine y_whole hp ?_
    walk_at "vy"
    cases d with
    | int p =>
      walk_at "vy"
      refine VF.y_inI ?_
      walk_at "vy"
      cases e : prsI.contains p with
      | false =>
        walk_at "vy"
        exact ⟨rfl, h1 e⟩
      | true =>
        walk_at "vy"
        refine BF.x_ite (fun k1 => ?_) (fun k1 => ?_)
        · walk_at "vy"
          exact ⟨rfl, h2 e (by omega)⟩
        · have hm := List.contains_iff_mem.mp e
          have hb : 1 < p ∧ p ≤ 64 := by
            simp only [prsI, List.mem_cons, List.not_mem_nil, or_false] at hm
            omega
          obtain ⟨q, rfl⟩ := nat_of (i := p) (by omega)
          obtain ⟨v, r, v', r', e1, e2, r0, r0', c, c', hq⟩ := h3 q rfl e (by omega) (by omega) (by omega)
          walk_at "vy"
          refine y_times (by rw [e1]) (by omega) (by omega) r0 c ?_
          walk_at "vy"
          refine y_times (by rw [e2]) (by omega) (by omega) r0' c' ?_
          walk_at "vy"
          exact hq
    | _ =>
      walk_at "vy"
      exact ⟨rfl, h1 rfl⟩
theorem y_power {t b : Nat} {d : VF.DV} {n : Int} {Q : VF.DV → Int → Prop} {E : XV} (hp : Pl 8 d) (h1 : primeB d = false → E "InvalidNumber" nsN (invN d) n) (h2 : primeB d = true → t = 0 → E "InvalidNumber" nsN (invN (.int 0)) n)
    (h3 : ∀ p : Nat, d = .int p → primeB d = true → 0 < t → 1 < p → p ≤ 64 → ∃ v r v' r' : Nat, t = p ^ v * r ∧ b = p ^ v' * r' ∧ 0 < r ∧ 0 < r' ∧ Nat.Coprime p r ∧ Nat.Coprime p r' ∧ Q (.int ((v : Int) - (v' : Int))) n) : sRPower (rD t b :: ([d] ++ [])) n Q E := ⟨t, b, d, rfl, hp, h1, h2, h3⟩
theorem sc_Ratio___str__ : FnScope ["self"] ["self"] (defScope s_Ratio___str__) := ⟨rfl, rfl, rfl, by decide +kernel, rfl, by decide +kernel, by decide +kernel⟩
theorem v_Ratio___str__ (T : TT K mg) : FnOk P w K mg base (L2.CX P w) 1 (He.ma K (He.ga K "Ratio") "__str__") (fdOf K ("Ratio", some "__str__")) ["self"] (liftSp K (Cs K) sRStr) := by
  refine v_ok (F_Ratio___str__ T) sc_Ratio___str__ (by decide) (by decide) ?_ (fun cdv A outer s H W ds n Q' hC hE hr h => ⟨_, (vss_cons (vs_if (vt_cmp (op_eqU K hr.units) d_eq (ve_fld (pe_fldK K (ve_var (pv 0)))) (ve_int pe_int) (nomark _)) (vss_one (vs_ret (ps_ret (ve_cb (pe_callTy (call_strD (m_35 T) hr) (by rfl) (T.free "str" rfl) boot_str (va_cons (ve_fld (pe_fldK K (ve_var (pv 0)))) va_nil)) d_strD)))) vss_nil)
  (vss_one (vs_ret (ps_ret (ve_fs (.cons (ve_fmtD (pe_fmtD (m_35 T) hr (ve_fld (pe_fldK K (ve_var (pv 0)))))) (.cons (ve_str pe_str) (.cons (ve_fmtD (pe_fmtD (m_35 T) hr (ve_fld (pe_fldK K (ve_var (pv 0)))))) .nil)))))))), ?_⟩)
  · rintro ds n Q E ⟨_, _, rfl, _⟩; rfl
  · obtain ⟨t, b, rfl, ht, hb, hq⟩ := h
    have a1 := aT T
    have a2 := aB T
    have lt := tN_len ht
    have lb := tN_len hb
    unfold rD
    walk_at "vin"
    walk_at "vy"
    refine BF.x_ite (fun h1 => ?_) (fun h1 => ?_)
    · walk_at "vy"
      refine VF.y_strD (by rw [Int.natAbs_natCast]; exact ht) ?_
      walk_at "vy"
      have e : rStr t b = tN t := if_pos (by omega)
      rw [e] at hq
      exact hq
    · walk_at "vy"
      have e : rStr t b = tN t ++ "/" ++ tN b := if_neg (by omega)
      rw [e] at hq
      refine VF.y_fmtDi (by rw [Int.natAbs_natCast]; exact ht) ?_
      refine VF.y_js1 (z := tN t) (by rw [show Str.empty.length = 0 from rfl]; omega) ?_
      walk_at "vy"
      refine VF.y_js1 (by rw [strLen_append, show Str.empty.length = 0 from rfl, show ("/" : Str).length = 1 from rfl]; omega) ?_
      walk_at "vy"
      refine VF.y_fmtDi (by rw [Int.natAbs_natCast]; exact hb) ?_
      refine VF.y_js1 (z := tN b) (by rw [strLen_append, strLen_append, show Str.empty.length = 0 from rfl, show ("/" : Str).length = 1 from rfl]; omega) ?_
      walk_at "vy"
      rw [Str.empty_append]
      exact hq
theorem sc_Ratio___repr__ : FnScope ["self"] ["self"] (defScope s_Ratio___repr__) := ⟨rfl, rfl, rfl, by decide +kernel, rfl, by decide +kernel, by decide +kernel⟩
theorem v_Ratio___repr__ (T : TT K mg) : FnOk P w K mg base (L2.CX P w) 1 (He.ma K (He.ga K "Ratio") "__repr__") (fdOf K ("Ratio", some "__repr__")) ["self"] (liftSp K (Cs K) sRRep) := by
  refine v_ok (F_Ratio___repr__ T) sc_Ratio___repr__ (by decide) (by decide) ?_ (fun cdv A outer s H W ds n Q' hC hE hr h => ⟨_, (vss_one (vs_ret (ps_ret (ve_fs (.cons (ve_str pe_str) (.cons (ve_fmtD (pe_fmtD (m_35 T) hr (ve_fld (pe_fldK K (ve_var (pv 0)))))) (.cons (ve_str pe_str) (.cons (ve_fmtD (pe_fmtD (m_35 T) hr (ve_fld (pe_fldK K (ve_var (pv 0)))))) (.cons (ve_str pe_str) .nil))))))))), ?_⟩)
  · rintro ds n Q E ⟨_, _, rfl, _⟩; rfl
  · obtain ⟨t, b, rfl, ht, hb, hq⟩ := h
    have a1 := aT T
    have a2 := aB T
    have lt := tN_len ht
    have lb := tN_len hb
    have l1 : ("Ratio(" : Str).length = 6 := rfl
    have l2 : (", " : Str).length = 2 := rfl
    have l3 : (")" : Str).length = 1 := rfl
    have l0 : Str.empty.length = 0 := rfl
    unfold rD
    walk_at "vin"
    walk_at "vy"
    refine VF.y_js1 (by omega) ?_
    walk_at "vy"
    refine VF.y_fmtDi (by rw [Int.natAbs_natCast]; exact ht) ?_
    refine VF.y_js1 (z := tN t) (by rw [strLen_append]; omega) ?_
    walk_at "vy"
    refine VF.y_js1 (by rw [strLen_append, strLen_append]; omega) ?_
    walk_at "vy"
    refine VF.y_fmtDi (by rw [Int.natAbs_natCast]; exact hb) ?_
    refine VF.y_js1 (z := tN b) (by rw [strLen_append, strLen_append, strLen_append]; omega) ?_
    walk_at "vy"
    refine VF.y_js1 (by rw [strLen_append, strLen_append, strLen_append, strLen_append]; omega) ?_
    walk_at "vy"
    rw [Str.empty_append]
    exact hq
def sCount : DSp := fun ds n Q E => ∃ x y, ds = [x, y] ∧ sRInit [x, y] n (fun ns es n' => Q (.ins "Ratio" ns es) n') E
theorem sc_count_ratio : FnScope ["part", "whole"] ["part", "whole"] (defScope s_count_ratio) := ⟨rfl, rfl, rfl, by decide +kernel, rfl, by decide +kernel, by decide +kernel⟩
theorem v_count_ratio (T : TT K mg) : FnOk P w K mg base (L2.CX P w) 5 (He.ga K "count_ratio") (fdOf K ("count_ratio", none)) ["part", "whole"] (liftSp K (Cs K) sCount) := by
  obtain ⟨ds2, v2, b2⟩ := B_init2 T
  refine v_ok (F_count_ratio T) sc_count_ratio (by decide) (by decide) ?_ (fun cdv A outer s H W ds n Q' hC hE hr h => ⟨_, (vss_one (vs_ret (ps_ret (ve_make (cl := "Ratio") hC hE (pe_makeE (T.mkr "Ratio" rfl) (v_Ratio___init__ T) (hr.mono (by decide)) (by rfl) (T.glo "Ratio" rfl) b2 v2 (passes_call (takes_of rfl rfl rfl rfl) (fun _ _ _ _ h => h)) (va_cons (ve_var (pv 0)) (va_cons (ve_var (pv 1)) va_nil))) (fun _ _ _ => .nil))))), ?_⟩)
  · rintro ds n Q E ⟨_, _, rfl, _⟩; rfl
  · obtain ⟨x, y, rfl, hq⟩ := h
    walk_at "vin"
    walk_at "vy"
    exact hq
theorem y_count {x y : VF.DV} {n : Int} {Q : VF.DV → Int → Prop} {E : XV} (q : sRInit [x, y] n (fun ns es n' => Q (.ins "Ratio" ns es) n') E) : sCount ([x, y] ++ []) n Q E := ⟨x, y, rfl, q⟩
end
end BF
/-! ## all_words, by data -/
namespace BF
open PySem PySem.Spec PyProof.Rows L2 VF
/-- the datum of the words -/
def wlD (s n : Nat) : List VF.DV := (wl s n).map fun w => .tup (nD w)
def sAll : GSp := fun ds n Q E => ∃ x y c, ds = [x, y, .int c] ∧ Pl 8 x ∧ Pl 8 y ∧ (numB x 0 99 = false → E "InvalidNumber" nsN (invN x) n) ∧ (numB x 0 99 = true → numB y 1 64 = false → E "InvalidNumber" nsN (invN y) n) ∧
  ∀ k s : Nat, x = .int k → y = .int s → k ≤ 99 → 1 ≤ s → s ≤ 64 → (c < (s ^ k : Nat) → E "TooMany" nsT [.str "TooMany", .int (s ^ k : Nat), .str "words"] n) ∧ ((s ^ k : Nat) ≤ c → s ^ k ≤ 5000 ∧ Q (wlD s k) n)
theorem numB_nat {d : VF.DV} {lo hi : Int} (h0 : 0 ≤ lo) (h : numB d lo hi = true) : ∃ k : Nat, d = .int k ∧ lo ≤ k ∧ (k : Int) ≤ hi := by
  cases d with
  | int i =>
    have h : (decide (lo ≤ i) && decide (i ≤ hi)) = true := h
    rw [Bool.and_eq_true, decide_eq_true_eq, decide_eq_true_eq] at h
    obtain ⟨k, rfl⟩ := nat_of (i := i) (by omega)
    exact ⟨k, rfl, h.1, h.2⟩
  | _ => cases h
theorem nD_rev (xs : List Nat) : (nD xs).reverse = nD xs.reverse := (List.map_reverse ..).symm
section
variable {P : Program} {w : World} {K : PySem.W.Frag} {mg : Str → Option Value} {base : Heap}
theorem sc_all_words : GScope ["length", "signs", "most", "count", "word", "_", "at"] ["length", "signs", "most"] (defScope s_all_words) := ⟨rfl, rfl, rfl, by decide +kernel, rfl, by decide +kernel, by decide +kernel⟩
theorem g_all_words (T : TT K mg) : GFn P w K mg base 4 (He.ga K "all_words") (fdOf K ("all_words", none)) ["length", "signs", "most"] (liftSpGn K (Cs K) sAll) := by
  refine v_okG (F_all_words T) sc_all_words (by decide) (by decide) ?_ (fun cdv A outer s H W ds n Q' pn hC hE hr h => ⟨_, (vns_cons (vn_ps (vs_if (vt_not (vt_val (ve_call hC hE (pe_call (v_is_number T) (hr.mono (by decide)) (by rfl) (T.glo "is_number" rfl) (F_is_number T).kp (B_is_number T) .nil (passes_call takes_gcx (fun _ _ _ _ h => h)) (va_cons (ve_var (pv 0)) (va_cons (ve_int pe_int) (va_cons (ve_gint (by rfl) (T.int "MOST_LENGTH" 99 rfl)) va_nil)))) (fun _ _ _ => .nil)))) (vss_one (vs_raise (ns := nsN) (gd := gdN) hE (ps_raise rfl takes_gcx (pmk_ex (by decide) (xInvalidNumber T).oex (xInvalidNumber T).ini (xInvalidNumber T).fun_ (ok_InvalidNumber___init__ T) (hr.mono (by decide)) (B_InvalidNumber___init__ T) pass0 (by rfl) (T.glo "InvalidNumber" rfl) (va_cons (ve_var (pv 0)) va_nil))) raise_N)) vss_nil))
  (vns_cons (vn_ps (vs_if (vt_not (vt_val (ve_call hC hE (pe_call (v_is_number T) (hr.mono (by decide)) (by rfl) (T.glo "is_number" rfl) (F_is_number T).kp (B_is_number T) .nil (passes_call takes_gcx (fun _ _ _ _ h => h)) (va_cons (ve_var (pv 1)) (va_cons (ve_int pe_int) (va_cons (ve_gint (by rfl) (T.int "MOST_SIGNS" 64 rfl)) va_nil)))) (fun _ _ _ => .nil)))) (vss_one (vs_raise (ns := nsN) (gd := gdN) hE (ps_raise rfl takes_gcx (pmk_ex (by decide) (xInvalidNumber T).oex (xInvalidNumber T).ini (xInvalidNumber T).fun_ (ok_InvalidNumber___init__ T) (hr.mono (by decide)) (B_InvalidNumber___init__ T) pass0 (by rfl) (T.glo "InvalidNumber" rfl) (va_cons (ve_var (pv 1)) va_nil))) raise_N)) vss_nil))
  (vns_cons (vn_ps (vs_set (ps_set (i := 3) sc_all_words.nd rfl (Or.inl rfl) (ve_call hC hE (pe_call (v_power_of T) (hr.mono (by decide)) (by rfl) (T.glo "power_of" rfl) (F_power_of T).kp (B_power_of T) .nil (passes_call takes_gcx (fun _ _ _ _ h => h)) (va_cons (ve_var (pv 1)) (va_cons (ve_var (pv 0)) va_nil))) (fun _ _ _ => .nil)))))
  (vns_cons (vn_ps (vs_if (vt_cmp op_gt d_IB (ve_var (pv 3)) (ve_var (pv 2)) (nomark _)) (vss_one (vs_raise (ns := nsT) (gd := gdT) hE (ps_raise rfl takes_gcx (pmk_ex (by decide) (xTooMany T).oex (xTooMany T).ini (xTooMany T).fun_ (ok_TooMany___init__ T) (hr.mono (by decide)) (B_TooMany___init__ T) pass0 (by rfl) (T.glo "TooMany" rfl) (va_cons (ve_str pe_str) (va_cons (ve_var (pv 3)) va_nil)))) raise_T)) vss_nil))
  (vns_cons (vn_ps (vs_setO (ps_set (i := 4) sc_all_words.nd rfl (Or.inl rfl) (vo_rep (pe_op op_rep (ve_lst (va_cons (ve_int pe_int) va_nil)) (ve_var (pv 0)))))))
  (vns_cons (vn_for owns_gcx rfl (vi_rng1 (pi_range1 (by rfl) (T.free "range" rfl) (va_cons (ve_var (pv 3)) va_nil))) (vg_name (pg_name (i := 5) sc_all_words.nd rfl (Or.inl rfl))) (vns_cons (vn_yield (ve_tupV (pe_callTy (call_tupLTK K) (by rfl) (T.free "tuple" rfl) boot_tuple (pa_cons (pv 4) pa_nil))))
  (vns_ps (vss_cons (vs_set (ps_set (i := 6) sc_all_words.nd rfl (Or.inl rfl) (ve_op op_sub d_I0 (ve_var (pv 0)) (ve_int pe_int))))
  (vss_cons (vs_while owns_gcx (PW.pt (vw_and (vt_cmp op_ge d_IB (ve_var (pv 6)) (ve_int pe_int) (nomark _)) (vw_and1 (vt_cmp (op_eqU K hr.units) d_eq (ve_ixV (pe_ix (ix_LTK K) (pv 4) (ve_var (pv 6)) (fun _ _ => rfl))) (ve_op op_sub d_I0 (ve_var (pv 1)) (ve_int pe_int)) (nomark _))))) (vss_cons (vs_setI (ps_asg (ve_int pe_int) (pg_sub (pv 4) (ve_var (pv 6)) set_list)))
  (vss_one (vs_aug (ps_aug (i := 6) sc_all_words.nd rfl (Or.inl rfl) (ve_int pe_int) ip_sub)))))
  (vss_one (vs_if (vt_cmp op_ge d_IB (ve_var (pv 6)) (ve_int pe_int) (nomark _)) (vss_one (vs_setI (ps_asg (ve_op (op_addD K) d_add (ve_ixV (pe_ix (ix_LTK K) (pv 4) (ve_var (pv 6)) (fun _ _ => rfl))) (ve_int pe_int)) (pg_sub (pv 4) (ve_var (pv 6)) set_list)))) vss_nil)))))))
  vns_nil)))))), ?_⟩)
  · rintro ds n Q E ⟨_, _, _, rfl, _⟩; rfl
  · obtain ⟨x, y, c, rfl, px, py, h1, h2, h3⟩ := h
    walk_at "vin"
    walk_at "vy"
    refine y_num px ?_
    walk_at "vy"
    cases ex : numB x 0 99 with
    | false =>
      walk_at "vy"
      exact ⟨rfl, h1 ex⟩
    | true =>
      obtain ⟨k, rfl, k0, k1⟩ := numB_nat (by decide) ex
      walk_at "vy"
      refine y_num py ?_
      walk_at "vy"
      cases ey : numB y 1 64 with
      | false =>
        walk_at "vy"
        exact ⟨rfl, h2 ex ey⟩
      | true =>
        obtain ⟨s, rfl, s0, s1⟩ := numB_nat (by decide) ey
        obtain ⟨hb, hg⟩ := h3 k s rfl rfl (by omega) (by omega) (by omega)
        walk_at "vy"
        refine y_pow 7 (by omega) (by decide) (by omega) (by omega) ?_
        walk_at "vy"
        refine BF.x_ite (fun hc => ?_) (fun hc => ?_)
        · walk_at "vy"
          exact ⟨rfl, hb (by omega)⟩
        · obtain ⟨h5, hq⟩ := hg (by omega)
          walk_at "vy"
          refine VF.y_repO2 (by omega) (by omega) (by simp only [List.length_cons, List.length_nil]; omega) ?_
          walk_at "vy"
          refine ⟨fun t ys τ n' => n' = n ∧ ys = (wlD s k).take t ∧ ∃ o1 o2, τ = [some (.d (.int k)), some (.d (.int s)), some (.d (.int c)), some (.d (.int (s ^ k : Nat))), some (.own (nD (bd s t k).reverse)), o1, o2], ⟨rfl, rfl, none, none, ?_⟩, ?_, ?_⟩
          · rw [bd_zero, List.reverse_replicate, Int.toNat_natCast, VF.rep1]
            unfold nD
            rw [List.map_replicate]
            rfl
          · rintro t d ys τ n' hd ⟨rfl, rfl, o1, o2, rfl⟩
            have ht : t < s ^ k := by
              have := (List.getElem?_eq_some_iff.mp hd).1
              rw [rngD_len] at this
              omega
            have wt : (wlD s k)[t]? = some (.tup (nD (bd s t k).reverse)) := by
              unfold wlD wl
              rw [List.map_map, List.getElem?_map, List.getElem?_range ht]
              rfl
            have tk : (wlD s k).take t ++ [.tup (nD (bd s t k).reverse)] = (wlD s k).take (t + 1) := by rw [List.take_succ, wt]; rfl
            refine VF.y_gYield (by rw [List.length_take]; omega) ?_
            walk_at "vy"
            obtain ⟨L, hL⟩ : ∃ L, bd s t k = L := ⟨_, rfl⟩
            have eL : bd s (t + 1) k = incR s L := by rw [bd_inc (by omega), hL]
            have lL : L.length = k := by rw [← hL, bd_len]
            rw [hL] at wt tk ⊢
            refine ⟨fun m τ n'' => n'' = n' ∧ ∃ (j : Nat) (u : List Nat), m = u.length ∧ L = List.replicate j (s - 1) ++ u ∧ τ = [some (.d (.int k)), some (.d (.int s)), some (.d (.int c)), some (.d (.int (s ^ k : Nat))), some (.own (nD (u.reverse ++ List.replicate j 0))), some (.d d), some (.d (.int ((u.length : Int) - 1)))],
              ⟨k, rfl, 0, L, lL.symm, rfl, by rw [List.replicate_zero, List.append_nil, lL]⟩, ?_⟩
            rintro m τ n'' ⟨rfl, j, u, rfl, hu, rfl⟩
            have lj : j + u.length = k := by rw [← lL, hu, List.length_append, List.length_replicate]
            walk_at "vy"
            cases u with
            | nil =>
              refine BF.x_iteF (decide_eq_false (by simp)) ?_
              walk_at "vy"
              have key : (bd s (t + 1) k).reverse = [].reverse ++ List.replicate j 0 := by
                rw [eL, hu, incR_max, List.reverse_append, List.reverse_replicate]
                rfl
              exact ⟨rfl, tk, _, _, by rw [key]⟩
            | cons x u =>
              have ex : incR s L = List.replicate j 0 ++ incR s (x :: u) := by rw [hu, incR_max]
              have at1 : (((x :: u).length : Int) - 1) = ((u.length : Nat) : Int) := by simp
              have wx : nD ((x :: u).reverse ++ List.replicate j 0) = nD u.reverse ++ VF.DV.int x :: nD (List.replicate j 0) := by
                unfold nD
                rw [List.reverse_cons, List.append_assoc, List.map_append]
                rfl
              have lu : (nD u.reverse).length = u.length := by rw [nD_len, List.length_reverse]
              have hat : atI (nD u.reverse ++ VF.DV.int x :: nD (List.replicate j 0)) ((u.length : Nat) : Int) = some (.int x) := atI_nat (by rw [← lu, List.getElem?_append_right (Nat.le_refl _), Nat.sub_self]; rfl)
              have hset : ∀ z : VF.DV, (nD u.reverse ++ VF.DV.int x :: nD (List.replicate j 0)).set u.length z = nD u.reverse ++ z :: nD (List.replicate j 0) := fun z => by
                rw [← lu, List.set_append_right _ _ (Nat.le_refl _), Nat.sub_self]
                rfl
              rw [at1, wx]
              refine BF.x_iteT (decide_eq_true (by omega)) ?_
              walk_at "vy"
              refine VF.y_ixO3 rfl hat ?_
              walk_at "vy"
              refine BF.x_ite (fun hx => ?_) (fun hx => ?_)
              · walk_at "vy"
                refine VF.y_setI2 rfl (VF.ixN_of (by omega) (by rw [List.length_append, lu, List.length_cons]; omega)) ?_
                rw [Int.toNat_natCast, hset]
                walk_at "vy"
                have hx' : x = s - 1 := by omega
                refine ⟨u.length, by simp, rfl, j + 1, u, rfl, by rw [hu, hx', List.replicate_succ', List.append_assoc]; rfl, ?_⟩
                have w2 : nD u.reverse ++ VF.DV.int 0 :: nD (List.replicate j 0) = nD (u.reverse ++ List.replicate (j + 1) 0) := by
                  unfold nD
                  rw [List.map_append, List.replicate_succ]
                  rfl
                rw [w2]
              · have hx' : ¬ x = s - 1 := by omega
                have key : (bd s (t + 1) k).reverse = u.reverse ++ (x + 1) :: List.replicate j 0 := by
                  rw [eL, ex, List.reverse_append, List.reverse_replicate]
                  have e2 : incR s (x :: u) = (x + 1) :: u := if_neg hx'
                  rw [e2, List.reverse_cons, List.append_assoc]
                  rfl
                have w2 : nD u.reverse ++ VF.DV.int ((x : Int) + 1) :: nD (List.replicate j 0) = nD (u.reverse ++ (x + 1) :: List.replicate j 0) := by
                  unfold nD
                  rw [List.map_append]
                  rfl
                walk_at "vy"
                refine VF.y_ixO3 rfl hat ?_
                walk_at "vy"
                refine VF.y_setI2 rfl (VF.ixN_of (by omega) (by rw [List.length_append, lu, List.length_cons]; omega)) ?_
                rw [Int.toNat_natCast, hset, w2]
                walk_at "vy"
                exact ⟨rfl, tk, _, _, by rw [key]⟩
          · rintro ys τ n' ⟨rfl, rfl, o1, o2, rfl⟩
            walk_at "vy"
            rw [rngD_len, Int.toNat_natCast, List.take_of_length_le (by unfold wlD; rw [List.length_map, wl_len]; omega)]
            exact hq
end
end BF
/-! ## Numbers as products of powers of primes -/
namespace BF
/-- the product of ps' powers, a negative power left out -/
def nu : List Nat → List Int → Nat
  | p :: ps, e :: es => p ^ e.toNat * nu ps es
  | _, _ => 1
def ng (e : List Int) : List Int := e.map fun x => -x
def ad (e f : List Int) : List Int := List.zipWith (fun x y => x + y) e f
def sc (k : Int) (e : List Int) : List Int := e.map fun x => k * x
def PC : List Nat → Prop
  | [] => True
  | p :: ps => (1 < p ∧ p ≤ 64 ∧ ∀ q ∈ ps, Nat.Coprime p q) ∧ PC ps
def PCb : List Nat → Bool
  | [] => true
  | p :: ps => decide (1 < p) && (decide (p ≤ 64) && (ps.all (fun q => decide (Nat.gcd p q = 1)) && PCb ps))
theorem PC.ofb : ∀ {ps : List Nat}, PCb ps = true → PC ps
  | [], _ => trivial
  | p :: ps, h => by
    unfold PCb at h
    rw [Bool.and_eq_true, Bool.and_eq_true, Bool.and_eq_true] at h
    exact ⟨⟨of_decide_eq_true h.1, of_decide_eq_true h.2.1, fun q hq => of_decide_eq_true (List.all_eq_true.mp h.2.2.1 q hq)⟩, PC.ofb h.2.2.2⟩
theorem nu_pos : ∀ {ps : List Nat} {e : List Int}, PC ps → 0 < nu ps e
  | [], _, _ => Nat.one_pos
  | _ :: _, [], _ => Nat.one_pos
  | p :: ps, e :: es, h => Nat.mul_pos (Nat.pow_pos (by have := h.1.1; omega)) (nu_pos h.2)
theorem nu_cop1 {p : Nat} : ∀ {ps : List Nat} {e : List Int}, (∀ q ∈ ps, Nat.Coprime p q) → Nat.Coprime p (nu ps e)
  | [], _, _ => Nat.coprime_one_right _
  | _ :: _, [], _ => Nat.coprime_one_right _
  | q :: ps, e :: es, h => Nat.Coprime.mul_right (Nat.Coprime.pow_right _ (h q (by simp))) (nu_cop1 fun x hx => h x (by simp [hx]))
theorem nu_cop : ∀ {ps : List Nat} {e : List Int}, PC ps → Nat.Coprime (nu ps e) (nu ps (ng e))
  | [], _, _ => Nat.coprime_one_left _
  | _ :: _, [], _ => Nat.coprime_one_left _
  | p :: ps, e :: es, h => by
    have c1 : ∀ f : List Int, Nat.Coprime p (nu ps f) := fun f => nu_cop1 h.1.2.2
    have ih := nu_cop (e := es) h.2
    show Nat.Coprime (p ^ e.toNat * nu ps es) (p ^ (-e).toNat * nu ps (ng es))
    rcases Int.le_total e 0 with q | q
    · have : e.toNat = 0 := by omega
      rw [this, Nat.pow_zero, Nat.one_mul]
      exact Nat.Coprime.mul_right ((Nat.Coprime.pow_left _ (c1 es)).symm) ih
    · have : (-e).toNat = 0 := by omega
      rw [this, Nat.pow_zero, Nat.one_mul]
      exact Nat.Coprime.mul_left (Nat.Coprime.pow_left _ (c1 _)) ih
theorem nu_one : ∀ {ps : List Nat} {e : List Int}, (∀ x ∈ e, x ≤ 0) → nu ps e = 1
  | [], _, _ => rfl
  | _ :: _, [], _ => rfl
  | p :: ps, e :: es, h => by
    have h1 : e.toNat = 0 := by have := h e (by simp); omega
    show p ^ e.toNat * nu ps es = 1
    rw [h1, nu_one fun x hx => h x (by simp [hx])]
    rfl
theorem nu_le {m : Nat} : ∀ {ps : List Nat} {e : List Int}, PC ps → (∀ x ∈ e, x ≤ (m : Int)) → nu ps e ≤ 64 ^ (m * ps.length)
  | [], _, _, _ => by simp [nu]
  | _ :: _, [], _, _ => Nat.pow_pos (by decide)
  | p :: ps, e :: es, h, hm => by
    show p ^ e.toNat * nu ps es ≤ 64 ^ (m * (ps.length + 1))
    rw [Nat.mul_succ, Nat.add_comm, Nat.pow_add]
    refine Nat.mul_le_mul ?_ (nu_le h.2 fun x hx => hm x (by simp [hx]))
    have h1 : e.toNat ≤ m := by have := hm e (by simp); omega
    exact Nat.le_trans (Nat.pow_le_pow_left h.1.2.1 _) (Nat.pow_le_pow_right (by decide) h1)
theorem nu_lt {m b : Nat} {ps : List Nat} {e : List Int} (h : PC ps) (hm : ∀ x ∈ e, x ≤ (m : Int)) (hb : 6 * (m * ps.length) < b) : nu ps e < 2 ^ b := by
  refine Nat.lt_of_le_of_lt (nu_le h hm) ?_
  have e1 : (64 : Nat) = 2 ^ 6 := rfl
  rw [e1, ← Nat.pow_mul]
  exact Nat.pow_lt_pow_right (by decide) hb
/-- two numbers with powers e, f: their product, cut short by g -/
theorem nu_mul {m : Nat} : ∀ {ps : List Nat} {e f : List Int}, PC ps → e.length = f.length → (∀ (i : Nat) (x y : Int), e[i]? = some x → f[i]? = some y → (-(m : Int) ≤ x ∧ x ≤ m) ∨ (-(m : Int) ≤ y ∧ y ≤ m)) →
    ∃ g, 0 < g ∧ g ≤ 64 ^ (m * ps.length) ∧ nu ps e * nu ps f = g * nu ps (ad e f) ∧ nu ps (ng e) * nu ps (ng f) = g * nu ps (ng (ad e f))
  | [], _, _, _, _, _ => ⟨1, by decide, by simp, by simp [nu], by simp [nu]⟩
  | p :: ps, [], [], _, _, _ => ⟨1, by decide, Nat.pow_pos (by decide), by simp [nu, ad], by simp [nu, ad, ng]⟩
  | p :: ps, [], _ :: _, _, h, _ => by simp at h
  | p :: ps, _ :: _, [], _, h, _ => by simp at h
  | p :: ps, x :: e, y :: f, h, hl, hm => by
    obtain ⟨g, g0, g1, h1, h2⟩ := nu_mul (m := m) (e := e) (f := f) h.2 (by simpa using hl) (fun i x y hx hy => hm (i + 1) x y (by simpa using hx) (by simpa using hy))
    have hxy := hm 0 x y rfl rfl
    obtain ⟨t, ht⟩ : ∃ t : Nat, t = x.toNat + y.toNat - (x + y).toNat := ⟨_, rfl⟩
    have e1 : x.toNat + y.toNat = t + (x + y).toNat := by omega
    have e2 : (-x).toNat + (-y).toNat = t + (-(x + y)).toNat := by omega
    have tm : t ≤ m := by omega
    refine ⟨p ^ t * g, Nat.mul_pos (Nat.pow_pos (by have := h.1.1; omega)) g0, ?_, ?_, ?_⟩
    · show p ^ t * g ≤ 64 ^ (m * (ps.length + 1))
      rw [Nat.mul_succ, Nat.add_comm, Nat.pow_add]
      exact Nat.mul_le_mul (Nat.le_trans (Nat.pow_le_pow_left h.1.2.1 _) (Nat.pow_le_pow_right (by decide) tm)) g1
    · show p ^ x.toNat * nu ps e * (p ^ y.toNat * nu ps f) = p ^ t * g * (p ^ (x + y).toNat * nu ps (ad e f))
      rw [show p ^ x.toNat * nu ps e * (p ^ y.toNat * nu ps f) = (p ^ x.toNat * p ^ y.toNat) * (nu ps e * nu ps f) from by ac_rfl, ← Nat.pow_add, e1, h1, Nat.pow_add]
      ac_rfl
    · show p ^ (-x).toNat * nu ps (ng e) * (p ^ (-y).toNat * nu ps (ng f)) = p ^ t * g * (p ^ (-(x + y)).toNat * nu ps (ng (ad e f)))
      rw [show p ^ (-x).toNat * nu ps (ng e) * (p ^ (-y).toNat * nu ps (ng f)) = (p ^ (-x).toNat * p ^ (-y).toNat) * (nu ps (ng e) * nu ps (ng f)) from by ac_rfl, ← Nat.pow_add, e2, h2, Nat.pow_add]
      ac_rfl
theorem nu_pow {k : Nat} : ∀ {ps : List Nat} {e : List Int}, nu ps e ^ k = nu ps (sc k e)
  | [], _ => by simp [nu]
  | _ :: _, [] => by simp [nu, sc]
  | p :: ps, e :: es => by
    show (p ^ e.toNat * nu ps es) ^ k = p ^ ((k : Int) * e).toNat * nu ps (sc k es)
    rw [Nat.mul_pow, nu_pow, ← Nat.pow_mul]
    congr 2
    rcases Int.le_total e 0 with q | q
    · have h1 : e.toNat = 0 := by omega
      have h2 : (k : Int) * e ≤ 0 := Int.mul_nonpos_of_nonneg_of_nonpos (by omega) q
      rw [h1]
      omega
    · obtain ⟨n, rfl⟩ := Int.eq_ofNat_of_zero_le q
      rw [← Int.natCast_mul, Int.toNat_natCast, Int.toNat_natCast, Nat.mul_comm]
theorem nu_at : ∀ {ps : List Nat} {e : List Int} {i p : Nat} {x : Int}, PC ps → ps[i]? = some p → e[i]? = some x → ∃ r, nu ps e = p ^ x.toNat * r ∧ Nat.Coprime p r
  | [], _, _, _, _, _, h, _ => by simp at h
  | _ :: _, [], _, _, _, _, _, h => by simp at h
  | q :: ps, y :: es, 0, p, x, h, hp, hx => by
    simp at hp hx
    subst hp hx
    exact ⟨nu ps es, rfl, nu_cop1 h.1.2.2⟩
  | q :: ps, y :: es, i + 1, p, x, h, hp, hx => by
    simp at hp hx
    obtain ⟨r, e1, c⟩ := nu_at (i := i) h.2 hp hx
    refine ⟨q ^ y.toNat * r, ?_, Nat.Coprime.mul_right ?_ c⟩
    · show q ^ y.toNat * nu ps es = _
      rw [e1]
      ac_rfl
    · exact (Nat.Coprime.pow_left _ (h.1.2.2 p (List.mem_of_getElem? hp))).symm
/-- p's power in a number is one alone -/
theorem val_eq {p a b r s : Nat} (hp : 1 < p) (h : p ^ a * r = p ^ b * s) (cr : Nat.Coprime p r) (cs : Nat.Coprime p s) : a = b := by
  have key : ∀ {a b r s : Nat}, p ^ a * r = p ^ b * s → Nat.Coprime p r → ¬ a < b := fun {a b r s} h cr hl => by
    obtain ⟨d, rfl⟩ : ∃ d, b = a + (d + 1) := ⟨b - a - 1, by omega⟩
    rw [Nat.pow_add, Nat.mul_assoc] at h
    have h2 := Nat.eq_of_mul_eq_mul_left (Nat.pow_pos (by omega)) h
    have h3 : p ∣ r := ⟨p ^ d * s, by rw [h2, Nat.pow_succ]; ac_rfl⟩
    have := Nat.Coprime.eq_one_of_dvd cr h3
    omega
  have h1 := key h cr
  have h2 := key h.symm cs
  omega
theorem nu_inj {ps : List Nat} {e f : List Int} (h : PC ps) (le : e.length = ps.length) (lf : f.length = ps.length) (h1 : nu ps e = nu ps f) (h2 : nu ps (ng e) = nu ps (ng f)) : e = f := by
  refine List.ext_getElem? fun i => ?_
  rcases Nat.lt_or_ge i ps.length with q | q
  · have hp : ps[i]? = some ps[i] := List.getElem?_eq_getElem q
    have hx : e[i]? = some e[i] := List.getElem?_eq_getElem (by omega)
    have hy : f[i]? = some f[i] := List.getElem?_eq_getElem (by omega)
    have hnx : (ng e)[i]? = some (-e[i]) := by rw [ng, List.getElem?_map, hx]; rfl
    have hny : (ng f)[i]? = some (-f[i]) := by rw [ng, List.getElem?_map, hy]; rfl
    obtain ⟨r1, a1, c1⟩ := nu_at h hp hx
    obtain ⟨r2, a2, c2⟩ := nu_at h hp hy
    obtain ⟨r3, a3, c3⟩ := nu_at h hp hnx
    obtain ⟨r4, a4, c4⟩ := nu_at h hp hny
    have pp : ∀ {ps : List Nat} {i : Nat} {p : Nat}, PC ps → ps[i]? = some p → 1 < p := by
      intro ps
      induction ps with
      | nil => intro i p _ h; simp at h
      | cons q ps ih =>
        intro i p hc h
        cases i with
        | zero => simp at h; subst h; exact hc.1.1
        | succ i => exact ih hc.2 (by simpa using h)
    have p1 := pp h hp
    have v1 := val_eq p1 (a1.symm.trans (h1.trans a2)) c1 c2
    have v2 := val_eq p1 (a3.symm.trans (h2.trans a4)) c3 c4
    rw [hx, hy]
    congr 1
    omega
  · rw [List.getElem?_eq_none (by omega), List.getElem?_eq_none (by omega)]
theorem PC.at : ∀ {ps : List Nat} {i : Nat} {p : Nat}, PC ps → ps[i]? = some p → 1 < p ∧ p ≤ 64 := by
  intro ps
  induction ps with
  | nil => intro i p _ h; simp at h
  | cons q ps ih =>
    intro i p hc h
    cases i with
    | zero => simp at h; subst h; exact ⟨hc.1.1, hc.1.2.1⟩
    | succ i => exact ih hc.2 (by simpa using h)
end BF
/-! ## The plain law of ratios: the law's ten primes -/
namespace BF
def lp : List Nat := [2, 3, 5, 7, 11, 13, 17, 41, 59, 61]
theorem lp_pc : PC lp := PC.ofb (by decide)
theorem nu_set : ∀ {ps : List Nat} {e : List Int} {k p : Nat} {x : Int}, ps[k]? = some p → e[k]? = some x → 0 ≤ x → nu ps (e.set k (x + 1)) = nu ps e * p
  | [], _, _, _, _, h, _, _ => by cases h
  | _ :: _, [], _, _, _, _, h, _ => by cases h
  | p :: ps, x :: e, 0, _, _, rfl, rfl, h0 => by
    show p ^ (x + 1).toNat * nu ps e = p ^ x.toNat * nu ps e * p
    rw [show (x + 1).toNat = x.toNat + 1 by omega, Nat.pow_succ, Nat.mul_assoc, Nat.mul_comm p, ← Nat.mul_assoc]
  | q :: ps, y :: e, k + 1, p, x, h1, h2, h0 => by
    show q ^ y.toNat * nu ps (e.set k (x + 1)) = q ^ y.toNat * nu ps e * p
    rw [nu_set (k := k) (by simpa using h1) (by simpa using h2) h0, Nat.mul_assoc]
theorem nu_zero (ps : List Nat) (n : Nat) : nu ps (List.replicate n 0) = 1 := nu_one fun x hx => by rw [List.eq_of_mem_replicate hx]; exact Int.le_refl _
/-- ten powers between -m and m -/
def Ex10 (m : Nat) (e : List Int) : Prop := e.length = 10 ∧ ∀ x ∈ e, -(m : Int) ≤ x ∧ x ≤ m
theorem Ex10.mono {m k : Nat} {e : List Int} (h : Ex10 m e) (l : m ≤ k) : Ex10 k e := ⟨h.1, fun x hx => by have := h.2 x hx; omega⟩
theorem Ex10.ng {m : Nat} {e : List Int} (h : Ex10 m e) : Ex10 m (ng e) := ⟨by unfold BF.ng; rw [List.length_map]; exact h.1, fun x hx => by
  obtain ⟨y, hy, rfl⟩ := List.mem_map.mp hx
  have := h.2 y hy
  omega⟩
theorem Ex10.lt {m : Nat} {e : List Int} (h : Ex10 m e) : nu lp e < 2 ^ (60 * m + 1) := nu_lt lp_pc (fun x hx => (h.2 x hx).2) (by show 6 * (m * 10) < _; omega)
theorem ng_ng (e : List Int) : ng (ng e) = e := by
  unfold ng
  rw [List.map_map]
  conv => rhs; rw [← List.map_id e]
  exact List.map_congr_left fun x _ => by simp
theorem Ex10.ad {m k : Nat} {e f : List Int} (h1 : Ex10 m e) (h2 : Ex10 k f) : Ex10 (m + k) (ad e f) := by
  refine ⟨by simp [BF.ad, h1.1, h2.1], fun x hx => ?_⟩
  unfold BF.ad at hx
  rw [← List.map_uncurry_zip_eq_zipWith] at hx
  obtain ⟨⟨a, b⟩, hab, rfl⟩ := List.mem_map.mp hx
  have := h1.2 a (List.of_mem_zip hab).1
  have := h2.2 b (List.of_mem_zip hab).2
  show _ ≤ a + b ∧ a + b ≤ _
  omega
theorem Ex10.sc {m : Nat} {k : Int} {e : List Int} (h : Ex10 m e) : Ex10 (m * k.natAbs) (sc k e) := by
  refine ⟨by unfold BF.sc; rw [List.length_map]; exact h.1, fun x hx => ?_⟩
  obtain ⟨y, hy, rfl⟩ := List.mem_map.mp hx
  have h1 := h.2 y hy
  have h2 : (k * y).natAbs ≤ m * k.natAbs := by
    rw [Int.natAbs_mul, Nat.mul_comm]
    exact Nat.mul_le_mul_right _ (by omega)
  omega
theorem ad_ng_eq (e f : List Int) : List.zipWith (fun x y => x - y) e f = ad e (ng f) := by
  unfold ad ng
  rw [List.zipWith_map_right]
  rfl
/-- u / d in lowest terms -/
theorem nu_ratio {m : Nat} {u d : List Int} (hu : Ex10 m u) (hd : Ex10 m d) (u0 : ∀ x ∈ u, 0 ≤ x) (d0 : ∀ x ∈ d, 0 ≤ x) :
    ∃ g, 0 < g ∧ nu lp u = g * nu lp (ad u (ng d)) ∧ nu lp d = g * nu lp (ng (ad u (ng d))) := by
  obtain ⟨g, g0, _, e1, e2⟩ := nu_mul (m := m) (e := u) (f := ng d) lp_pc (by rw [hu.1, hd.ng.1]) fun i x y hx _ => .inl (hu.2 x (List.mem_of_getElem? hx))
  refine ⟨g, g0, ?_, ?_⟩
  · have h1 : nu lp (ng d) = 1 := nu_one fun x hx => by
      obtain ⟨y, hy, rfl⟩ := List.mem_map.mp hx
      have := d0 y hy
      omega
    rw [h1, Nat.mul_one] at e1
    exact e1
  · have h1 : nu lp (ng u) = 1 := nu_one fun x hx => by
      obtain ⟨y, hy, rfl⟩ := List.mem_map.mp hx
      have := u0 y hy
      omega
    rw [h1, Nat.one_mul, ng_ng] at e2
    exact e2
theorem nu_take : ∀ {ps : List Nat} {e : List Int} {i p : Nat} {x : Int}, ps[i]? = some p → e[i]? = some x → nu (ps.take (i + 1)) (e.take (i + 1)) = nu (ps.take i) (e.take i) * p ^ x.toNat
  | [], _, _, _, _, h, _ => by cases h
  | _ :: _, [], _, _, _, _, h => by cases h
  | p :: ps, x :: e, 0, _, _, rfl, rfl => by
    show p ^ x.toNat * 1 = 1 * p ^ x.toNat
    rw [Nat.mul_one, Nat.one_mul]
  | q :: ps, y :: e, i + 1, p, x, h1, h2 => by
    show q ^ y.toNat * nu (ps.take (i + 1)) (e.take (i + 1)) = q ^ y.toNat * nu (ps.take i) (e.take i) * p ^ x.toNat
    rw [nu_take (i := i) (by simpa using h1) (by simpa using h2), Nat.mul_assoc]
theorem pc_take : ∀ i, i < 11 → PCb (lp.take i) = true := by decide
/-- what has been multiplied so far is no more than that -/
theorem part_lt {m i j p : Nat} {e : List Int} (he : Ex10 m e) (hi : i < 10) (hp : p ≤ 64) (hj : j ≤ m) : nu (lp.take i) (e.take i) * p ^ j < 2 ^ (60 * m + 1) := by
  have h1 := nu_le (m := m) (e := e.take i) (PC.ofb (pc_take i (by omega))) fun x hx => (he.2 x (List.mem_of_mem_take hx)).2
  have h2 : p ^ j ≤ 64 ^ m := Nat.le_trans (Nat.pow_le_pow_left hp j) (Nat.pow_le_pow_right (by decide) hj)
  have l1 : (lp.take i).length ≤ 9 := by rw [List.length_take]; omega
  have h3 : (64 : Nat) ^ (m * (lp.take i).length) ≤ 64 ^ (m * 9) := Nat.pow_le_pow_right (by decide) (Nat.mul_le_mul_left _ l1)
  have h4 := Nat.mul_le_mul (Nat.le_trans h1 h3) h2
  rw [← Nat.pow_add, show (64 : Nat) = 2 ^ 6 from rfl, ← Nat.pow_mul] at h4
  exact Nat.lt_of_le_of_lt h4 (Nat.pow_lt_pow_right (by decide) (by omega))
theorem sc_ng (k : Int) (e : List Int) : sc k (ng e) = ng (sc k e) := by
  unfold sc ng
  rw [List.map_map, List.map_map]
  exact List.map_congr_left fun x _ => by simp only [Function.comp, Int.mul_neg]
theorem sc_neg (k : Int) (e : List Int) : sc (-k) e = ng (sc k e) := by
  unfold sc ng
  rw [List.map_map]
  exact List.map_congr_left fun x _ => by simp only [Function.comp, Int.neg_mul]
theorem sc_zero {e : List Int} (h : e.length = 10) : sc 0 e = List.replicate 10 0 := by
  rw [← h]
  unfold sc
  clear h
  induction e with
  | nil => rfl
  | cons x e ih => rw [List.map_cons, ih, List.length_cons, List.replicate_succ, Int.zero_mul]
/-- a power with a negative exponent is one of the ratio turned round -/
theorem nu_pow_abs {k : Int} {e : List Int} (h : 0 ≤ k) : nu lp e ^ k.natAbs = nu lp (sc k e) := by
  rw [nu_pow]
  congr 2
  omega
end BF
/-! ## The law's _law_like: at one and the same plain value it is True; values that are any -/
namespace BF
open PySem PySem.Spec PyProof.Rows L2 VF
theorem asBl_map {α : Type} {p : α → Bool} : ∀ {ds : List α}, asBl (ds.map fun d => VF.DV.bl (p d)) = some (ds.map p)
  | [] => rfl
  | d :: ds => by
    rw [List.map_cons, List.map_cons]
    simp only [asBl]
    rw [asBl_map (ds := ds)]
    rfl
theorem all_map {α : Type} {p : α → Bool} {ds : List α} : (ds.map p).all id = ds.all p := by
  rw [List.all_map]
  rfl
theorem y_allM {α : Type} {p : α → Bool} {ds : List α} {P : DP} (q : P (.bl (ds.all p))) : wAll [.lst (ds.map fun d => VF.DV.bl (p d))] P := ⟨_, asBl_map, by rw [all_map]; exact q⟩
theorem pz_c {k : Nat} {d : VF.DV} {ds : List VF.DV} (h : Pz k d) (h2 : ∀ x ∈ ds, Pz k x) : ∀ x ∈ d :: ds, Pz k x := fun x hx => (List.mem_cons.mp hx).elim (fun e => e ▸ h) (h2 x)
theorem pz_e {k : Nat} : ∀ x ∈ ([] : List VF.DV), Pz k x := nofun
theorem pz_one {k : Nat} {x : VF.DV} (h : Pz k x) : ∀ d ∈ [x], Pz k d := fun d hd => by rw [List.mem_singleton.mp hd]; exact h
theorem atI_int {es : List VF.DV} {i : Int} (h0 : 0 ≤ i) (h1 : i < es.length) : ∃ x, atI es i = some x ∧ x ∈ es := by
  obtain ⟨j, rfl⟩ : ∃ j : Nat, i = j := ⟨i.toNat, by omega⟩
  have hj : j < es.length := by omega
  exact ⟨es[j], atI_nat (List.getElem?_eq_getElem hj), List.getElem_mem hj⟩
def sLike (k : Nat) : DSp := fun ds n Q _ => ∃ d, ds = [d, d] ∧ Pz k d ∧ Q (.bl true) n
section
variable {P : Program} {w : World} {K : PySem.W.Frag} {mg : Str → Option Value} {base : Heap}
theorem sc__law_like : FnScope ["_law_found", "_law_due", "_law_a", "_law_b"] ["_law_found", "_law_due"] (defScope s__law_like) := ⟨rfl, rfl, rfl, by decide +kernel, rfl, by decide +kernel, by decide +kernel⟩
theorem like_step (T : TT K mg) {k : Nat} {sp' : DSp} (G : FnOk P w K mg base (L2.CX P w) k (He.ga K "_law_like") (fdOf K ("_law_like", none)) ["_law_found", "_law_due"] (liftSp K (Cs K) sp')) (hG : ∀ m, k = m + 1 → sp' = sLike m) :
    FnOk P w K mg base (L2.CX P w) (k + 1) (He.ga K "_law_like") (fdOf K ("_law_like", none)) ["_law_found", "_law_due"] (liftSp K (Cs K) (sLike k)) := by
  refine v_ok (F__law_like T) sc__law_like (by decide) (by decide) ?_ (fun cdv A outer s H W ds n Q' hC hE hr h => ⟨_, (vss_cons (vs_if (vt_val (ve_cb (pe_callB (call_isiS K) (by rfl) (T.free "isinstance" rfl) boot_isinstance (va_cons (ve_var (pv 1)) (va_cons (ve_tup (va_cons (ve_ty (pe_bltn (v := .ty "list") (by rfl) (T.free "list" rfl) boot_list rfl)) (va_cons (ve_ty (pe_bltn (v := .ty "tuple") (by rfl) (T.free "tuple" rfl) boot_tuple rfl)) va_nil))) va_nil))) d_isiT)) (vss_cons (vs_if (PW.pt (vw_or (vt_cmp (op_neU K hr.units) d_ne (ve_cb (pe_callB (call_isiK' K) (by rfl) (T.free "isinstance" rfl) boot_isinstance (va_cons (ve_var (pv 0)) (va_cons (ve_ty (pe_bltn (v := .ty "list") (by rfl) (T.free "list" rfl) boot_list rfl)) va_nil))) d_isi) (ve_cb (pe_callB (call_isiK' K) (by rfl) (T.free "isinstance" rfl) boot_isinstance (va_cons (ve_var (pv 1)) (va_cons (ve_ty (pe_bltn (v := .ty "list") (by rfl) (T.free "list" rfl) boot_list rfl)) va_nil))) d_isi) (nomark _)) (vw_or1 (vt_cmp (op_neU K hr.units) d_ne (ve_cb (pe_callB (call_isiK' K) (by rfl) (T.free "isinstance" rfl) boot_isinstance (va_cons (ve_var (pv 0)) (va_cons (ve_ty (pe_bltn (v := .ty "tuple") (by rfl) (T.free "tuple" rfl) boot_tuple rfl)) va_nil))) d_isi) (ve_cb (pe_callB (call_isiK' K) (by rfl) (T.free "isinstance" rfl) boot_isinstance (va_cons (ve_var (pv 1)) (va_cons (ve_ty (pe_bltn (v := .ty "tuple") (by rfl) (T.free "tuple" rfl) boot_tuple rfl)) va_nil))) d_isi) (nomark _))))) (vss_one (vs_ret (ps_ret (ve_bl pe_bl)))) vss_nil)
  (vss_one (vs_ret (ps_ret (ve_and (ve_cmp (op_eqU K hr.units) d_eq (ve_cb (pe_callB (call_lenK K) (by rfl) (T.free "len" rfl) boot_len (va_cons (ve_var (pv 0)) va_nil)) d_len) (ve_cb (pe_callB (call_lenK K) (by rfl) (T.free "len" rfl) boot_len (va_cons (ve_var (pv 1)) va_nil)) d_len) (nomark _)) (pe_one (ve_cb (pe_callB (cr_allK K) (by rfl) (T.free "all" rfl) boot_all (va_cons (ve_ofO (vo_lc (pe_lc (own := [("_law_a", 2), ("_law_b", 3)]) rfl sc__law_like.nd (vi_zip (RZ.pi_zipA (by rfl) (T.free "zip" rfl) (va_cons (ve_var (pv 0)) (va_cons (ve_var (pv 1)) va_nil)))) (blkOk_by (N := ["_law_found", "_law_due", "_law_a", "_law_b"]) (sc := defScope s__law_like) (by decide +kernel)) (fun _ _ _ _ _ => (vg_tup (m := 2) rfl rfl (vgs_cons (vg_name (pg_name (i := 2) sc__law_like.nd rfl (Or.inl rfl))) (vgs_cons (vg_name (pg_name (i := 3) sc__law_like.nd rfl (Or.inl rfl))) vgs_nil)))) (fun _ _ _ _ _ => vts_nil) (fun _ _ _ _ _ => (ve_call hC elink0 (pe_call G hr (by rfl) (T.glo "_law_like" rfl) (F__law_like T).kp (B__law_like T) .nil passL (va_cons (ve_var (pv 2)) (va_cons (ve_var (pv 3)) va_nil))) (fun _ _ _ => .nil)))))) va_nil)) d_all))))))) vss_nil)
  (vss_cons (vs_if (PW.pt (vw_or (vt_cmp op_isNX d_is (ve_var (pv 1)) (ve_non pe_non) (nomark _)) (vw_or1 (vt_cmp op_isNX d_is (ve_var (pv 0)) (ve_non pe_non) (nomark _))))) (vss_one (vs_ret (ps_ret (ve_and (ve_cmp op_isNX d_is (ve_var (pv 1)) (ve_non pe_non) (nomark _)) (pe_one (ve_cmp op_isNX d_is (ve_var (pv 0)) (ve_non pe_non) (nomark _))))))) vss_nil)
  (vss_cons (vs_if (PW.pt (vw_or (vt_val (ve_cb (pe_callB (call_isiS K) (by rfl) (T.free "isinstance" rfl) boot_isinstance (va_cons (ve_var (pv 0)) (va_cons (ve_tup (va_cons (ve_ty (pe_bltn (v := .ty "list") (by rfl) (T.free "list" rfl) boot_list rfl)) (va_cons (ve_ty (pe_bltn (v := .ty "tuple") (by rfl) (T.free "tuple" rfl) boot_tuple rfl)) va_nil))) va_nil))) d_isiT)) (vw_or1 (vt_cmp (op_neU K hr.units) d_ne (ve_cb (pe_callB (call_isiK' K) (by rfl) (T.free "isinstance" rfl) boot_isinstance (va_cons (ve_var (pv 0)) (va_cons (ve_ty (pe_bltn (v := .ty "bool") (by rfl) (T.free "bool" rfl) boot_bool rfl)) va_nil))) d_isi) (ve_cb (pe_callB (call_isiK' K) (by rfl) (T.free "isinstance" rfl) boot_isinstance (va_cons (ve_var (pv 1)) (va_cons (ve_ty (pe_bltn (v := .ty "bool") (by rfl) (T.free "bool" rfl) boot_bool rfl)) va_nil))) d_isi) (nomark _))))) (vss_one (vs_ret (ps_ret (ve_bl pe_bl)))) vss_nil)
  (vss_cons (vs_if (PW.pt (vw_or (vt_cmp (op_neU K hr.units) d_ne (ve_cb (pe_callB (call_isiK' K) (by rfl) (T.free "isinstance" rfl) boot_isinstance (va_cons (ve_var (pv 0)) (va_cons (ve_ty (pe_bltn (v := .ty "str") (by rfl) (T.free "str" rfl) boot_str rfl)) va_nil))) d_isi) (ve_cb (pe_callB (call_isiK' K) (by rfl) (T.free "isinstance" rfl) boot_isinstance (va_cons (ve_var (pv 1)) (va_cons (ve_ty (pe_bltn (v := .ty "str") (by rfl) (T.free "str" rfl) boot_str rfl)) va_nil))) d_isi) (nomark _)) (vw_or1 (vt_cmp (op_neU K hr.units) d_ne (ve_cb (pe_callB (call_isiK' K) (by rfl) (T.free "isinstance" rfl) boot_isinstance (va_cons (ve_var (pv 0)) (va_cons (ve_ty (pe_bltn (v := .ty "int") (by rfl) (T.free "int" rfl) boot_int rfl)) va_nil))) d_isi) (ve_cb (pe_callB (call_isiK' K) (by rfl) (T.free "isinstance" rfl) boot_isinstance (va_cons (ve_var (pv 1)) (va_cons (ve_ty (pe_bltn (v := .ty "int") (by rfl) (T.free "int" rfl) boot_int rfl)) va_nil))) d_isi) (nomark _))))) (vss_one (vs_ret (ps_ret (ve_bl pe_bl)))) vss_nil)
  (vss_one (vs_ret (ps_ret (ve_cmp (op_eqU K hr.units) d_eq (ve_var (pv 0)) (ve_var (pv 1)) (nomark _))))))))), ?_⟩)
  · rintro ds n Q E ⟨d, rfl, _⟩; rfl
  · obtain ⟨d, rfl, hp, hq⟩ := h
    obtain ⟨x, ex, sx⟩ := hp.1
    walk_at "vin"
    cases d with
    | non =>
      walk_at "vx"
      exact hq
    | bl b =>
      walk_at "vx"
      simpa using hq
    | int i =>
      walk_at "vx"
      simpa using hq
    | str z =>
      walk_at "vx"
      simpa using hq
    | lst ds =>
      cases k with
      | zero => exact hp.1.no_lst.elim
      | succ k =>
        cases hG k rfl
        have hl := hp.len_lst
        walk_at "vx"
        refine VF.y_lcA ds (fun d => .tup [d, d]) (fun _ => .bl true) VF.zip_self hl (fun j d acc R hj hacc hR => ?_) ?_
        · walk_at "vx"
          refine ⟨d, rfl, hp.of_lst d (List.mem_of_getElem? hj), ?_⟩
          walk_at "vx"
          exact hR
        · walk_at "vx"
          refine y_allM (p := fun _ => true) ?_
          walk_at "vx"
          rw [VF.all_true]
          exact hq
    | tup ds =>
      cases k with
      | zero => exact hp.1.no_tup.elim
      | succ k =>
        cases hG k rfl
        have hl := hp.len_tup
        walk_at "vx"
        refine VF.y_lcA ds (fun d => .tup [d, d]) (fun _ => .bl true) VF.zip_self hl (fun j d acc R hj hacc hR => ?_) ?_
        · walk_at "vx"
          refine ⟨d, rfl, hp.of_tup d (List.mem_of_getElem? hj), ?_⟩
          walk_at "vx"
          exact hR
        · walk_at "vx"
          refine y_allM (p := fun _ => true) ?_
          walk_at "vx"
          rw [VF.all_true]
          exact hq
    | _ => cases ex
theorem v__law_like (T : TT K mg) : ∀ k, FnOk P w K mg base (L2.CX P w) (k + 1) (He.ga K "_law_like") (fdOf K ("_law_like", none)) ["_law_found", "_law_due"] (liftSp K (Cs K) (sLike k))
  | 0 => like_step T (sp' := fun _ _ _ _ => False) (fnOk_false.imp fun vs H Q E h => by obtain ⟨_, _, _, _, _, _, _, _, _, _, _, _, h, _⟩ := h; exact h) nofun
  | k + 1 => like_step T (v__law_like T k) fun m e => by cases e; rfl
theorem y_like {k : Nat} {d : VF.DV} {n : Int} {Q : VF.DV → Int → Prop} {E : XV} (h : Pz k d) (q : Q (.bl true) n) : sLike k ([d, d] ++ []) n Q E := ⟨d, rfl, h, q⟩
end
end BF
/-! ## What a caught error tells -/
namespace BF
open PySem PySem.Spec PyProof.Rows L2
def FaultC (K : PySem.W.Frag) (C : Addr) (fs : List (Str × V)) (xs : List V) : Prop :=
  (∃ p, C = He.ga K "InvalidNumber" ∧ fs = fsN [p] ∧ xs = [.str "InvalidNumber", .str "InvalidNumber", p]) ∨
  (∃ p q, C = He.ga K "TooMany" ∧ fs = fsT [p, q] ∧ xs = [.str "TooMany", .str "TooMany", p, q])
def spFault (K : PySem.W.Frag) : Sp := fun vs H Q _ => ∃ (a C dd : Addr) (oe : Obj) (fs : List (Str × V)) (xs : List V), vs = [.ref a] ∧ H a = some (exF C (some dd) oe) ∧ H dd = some (.xd fs) ∧ FaultC K C fs xs ∧ ∀ p H', H p = none → Ex [] H H' → H' p = some (.lst xs) → Q (.ref p) H'
section
variable {P : Program} {w : World} {K : PySem.W.Frag} {mg : Str → Option Value} {base : Heap}
theorem sc__law_fault : FnScope ["_law_error"] ["_law_error"] (defScope s__law_fault) := ⟨rfl, rfl, rfl, by decide +kernel, rfl, by decide +kernel, by decide +kernel⟩
theorem ok__law_fault (T : TT K mg) : FnA P w K mg base CX0 1 (He.ga K "_law_fault") (fdOf K ("_law_fault", none)) ["_law_error"] (spFault K) := by
  refine fn_ofA (F__law_fault T) sc__law_fault (fun vs H Q E h => ?_) (fun cdv A outer s H vs Q E hr h => ⟨_, (pss_cons (ps_if (pt_val (pe_callB call_isET (by rfl) (T.free "isinstance" rfl) boot_isinstance (pa_cons (pv 0) (pa_cons (pe_glob (v := .ref _) (by rfl) (T.glo "InvalidNumber" rfl) rfl) pa_nil)))) (pss_one (ps_ret (pe_lstE (pa_cons pe_str (pa_cons (pe_xfT (pv 0)) (pa_cons (pe_xfT (pv 0)) pa_nil)))))) pss_nil)
  (pss_cons (ps_if (pt_val (pe_callB call_isET (by rfl) (T.free "isinstance" rfl) boot_isinstance (pa_cons (pv 0) (pa_cons (pe_glob (v := .ref _) (by rfl) (T.glo "TooMany" rfl) rfl) pa_nil)))) (pss_one (ps_ret (pe_lstE (pa_cons pe_str (pa_cons (pe_xfT (pv 0)) (pa_cons (pe_xfT (pv 0)) (pa_cons (pe_xfT (pv 0)) pa_nil))))))) pss_nil)
  (pss_one (ps_ret (pe_lstE (pa_cons pe_str pa_nil)))))), ?_⟩)
  · obtain ⟨a, C, dd, oe, fs, xs, rfl, _⟩ := h
    rfl
  · obtain ⟨a, C, dd, oe, fs, xs, rfl, ha, hd, hf, hq⟩ := h
    rcases hf with ⟨p, rfl, rfl, rfl⟩ | ⟨p, q, rfl, rfl, rfl⟩
    · have n1 := (ExcD.to (m_0 T)).2 "value" (by decide)
      have n3 := (ExcD.to (m_0 T)).2 "code" (by decide)
      walk_at "in"
      walk_at "gg"
      refine ⟨a, _, dd, oe, _, _, _, true, rfl, ha, hd, exccB_ok (m_30 T), fun _ h => h, kitsB_ok (m_32 T), ?_⟩
      walk_at "gg"
      refine ⟨_, rfl, a, _, dd, oe, _, _, rfl, ha, (xInvalidNumber T).xf, n3, hd, rfl, ?_⟩
      walk_at "gg"
      refine ⟨_, rfl, a, _, dd, oe, _, _, rfl, ha, (xInvalidNumber T).xf, n1, hd, rfl, ?_⟩
      walk_at "gg"
      exact hq _ _ (by assumption) (by assumption) (by assumption)
    · have n1 := (ExcD.to (m_1 T)).2 "what" (by decide)
      have n2 := (ExcD.to (m_1 T)).2 "count" (by decide)
      have n3 := (ExcD.to (m_1 T)).2 "code" (by decide)
      walk_at "in"
      walk_at "gg"
      refine ⟨a, _, dd, oe, _, _, _, false, rfl, ha, hd, exccB_ok (m_31 T), fun _ h => h, kitsB_ok (m_33 T), ?_⟩
      walk_at "gg"
      refine ⟨a, _, dd, oe, _, _, _, true, rfl, ha, hd, exccB_ok (m_31 T), fun _ h => h, kitsB_ok (m_34 T), ?_⟩
      walk_at "gg"
      refine ⟨_, rfl, a, _, dd, oe, _, _, rfl, ha, (xTooMany T).xf, n3, hd, rfl, ?_⟩
      walk_at "gg"
      refine ⟨_, rfl, a, _, dd, oe, _, _, rfl, ha, (xTooMany T).xf, n1, hd, rfl, ?_⟩
      walk_at "gg"
      refine ⟨_, rfl, a, _, dd, oe, _, _, rfl, ha, (xTooMany T).xf, n2, hd, rfl, ?_⟩
      walk_at "gg"
      exact hq _ _ (by assumption) (by assumption) (by assumption)
end
end BF
/-! ## the try around what is asked -/
namespace BF
open PySem PySem.Spec PyProof.Rows L2 VF
theorem takes_len {X : Cx} {W : WX} {n : Nat} (tk : Takes X W) (hn : X.N.length = n) : Takes X (fun cls d σ H => σ.length = n → W cls d σ H) := fun u s' ⟨a, B, sI, pins, σ, H, cls, d, e, I, nb, up, sky, na, os, ag, w⟩ =>
  tk u s' ⟨a, B, sI, pins, σ, H, cls, d, e, I, nb, up, sky, na, os, ag, w (I.len.trans hn)⟩
def tQ (Q : VK) : VK := fun y H1 => [V.str "", y].length ≤ 1000000 ∧ ∀ p H2, H1 p = none → Ex [] H1 H2 → H2 p = some (.lst [.str "told", y]) → Q (.ref p) H2
def AskX (K : PySem.W.Frag) (cls : Value) (d : Option Addr) (H' : Hp) (Q : VK) : Prop :=
  ∃ (x : Str) (dd : Addr) (fs : List (Str × V)) (xs : List V), cls = .ref (He.ga K x) ∧ x ∈ (["InvalidNumber", "TooMany"] : List Str) ∧ d = some dd ∧ H' dd = some (.xd fs) ∧ FaultC K (He.ga K x) fs xs ∧ ∀ p H2, H' p = none → Ex [] H' H2 → H2 p = some (.lst xs) → Q (.ref p) H2
def TTa (K : PySem.W.Frag) : (XK → Hp → VK → Prop) → Hp → VK → Prop := fun tl H Q => tl (fun cls d H' => AskX K cls d H' Q) H (tQ Q)
/-- the suite: what the caught error tells -/
def tSuite (K : PySem.W.Frag) : ClS := fun a cls d D σ H => ∃ C, cls = .ref C ∧ ∀ oe, Zc (.ref C) d oe → (∃ vs, oe.data = .fields vs) → tRet (tCallX a C d oe (spFault K) (tVar 1)) D σ H
theorem sc__law_ask : FnScope ["_law_deed", "_law_error"] ["_law_deed"] (defScope s__law_ask) := ⟨rfl, rfl, rfl, by decide +kernel, rfl, by decide +kernel, by decide +kernel⟩
theorem ask_gives {X : Cx} (T : TT X.K X.mg) {g : Addr} {cdg : Value} {q : Str} (hr : Room 3 X.A) : LamX.GivesTo X ["_law_deed", "_law_error"] "_law_ask" (defScope s__law_ask) g cdg (defBody s__law_ask) "_law_deed" q (TTa X.K) := by
  intro f c' s H Q tl act hc h
  refine ⟨_, pss_one (ps_try_as1B (X := (cxOf C8.CX0 X.prog X.w X.K X.mg X.base ["_law_deed", "_law_error"] "_law_ask" (defScope s__law_ask) g cdg X.A X.stack s H C8.E0).nox) (i := 1) (c := .ref (He.ga X.K "BorderError"))
    (tb := fun W D σ H => ∃ Ech : XK, (∀ cls d σ' H', Ech cls d H' → σ'.length = 2 → W cls d σ' H') ∧ σ[0]? = some (some (.ref f)) ∧ H c' = some (LamX.CodeO c' q) ∧ tl Ech H (tQ D.rt))
    (ts := tSuite X.K)
    rfl rfl sc__law_ask.nd rfl rfl ⟨by rfl, by decide, .inl (T.glo "BorderError" rfl)⟩ (fun W pn xe tk _ => ?_)
    (fun a oe cls d pn hbase hz hf => ⟨fun pins s' σ H' D I ⟨C, ec, hk⟩ => ?_⟩)), ?_⟩
  · refine ⟨fun pins s' σ H' D I h' => ?_⟩
    obtain ⟨Ech, hW, h1, h2, h3⟩ := h'
    have hp := fun p1 p2 => act (fun cls d σ H => σ.length = 2 → W cls d σ H) pn xe Ech p1 p2 (takes_len tk rfl) (fun cls d σ' H' h l => hW cls d σ' H' h l)
    exact (pss_one (ps_ret (pe_lstE (pa_cons pe_str (pa_cons (hp _ _) pa_nil))))).run pins s' σ H' D I ⟨h1, h2, h3⟩
  · subst ec
    refine (pss_one (ps_ret (pe_callA (C := C) (d := d) rfl rfl hbase hz hf (ok__law_fault T) ?_ (by rfl) (T.glo "_law_fault" rfl) (F__law_fault T).kp (B__law_fault T) (pv 1)))).run pins s' σ H' D I (hk oe hz hf)
    have h2 := (hr.mono (show 1 + 1 ≤ 3 by decide)).deeper (envOfC "_law_ask" (defScope s__law_ask) s.heap.objs.size g cdg)
    exact ⟨h2.dp, h2.un⟩
  · refine ⟨fun cls d H' => AskX X.K cls d H' Q, ?_, rfl, hc, h⟩
    rintro cls d σ' H' hx hl
    match σ', hl with
    | [x, y], _ =>
      obtain ⟨e, dd, fs, xs, rfl, he, rfl, hd, hf, k⟩ := hx
      have exm : PySem.W.exmOne X.K (.ref (He.ga X.K e)) (.ref (He.ga X.K "BorderError")) = some true := by
        simp only [List.mem_cons, List.not_mem_nil, or_false] at he
        rcases he with rfl | rfl
        · exact T.exm "InvalidNumber" "BorderError" true rfl
        · exact T.exm "TooMany" "BorderError" true rfl
      refine ⟨exm, fun a ha => ⟨_, rfl, fun oe hz hfl => ?_⟩⟩
      have hne : dd ≠ a := fun z => by
        rw [z, ha] at hd
        cases hd
      refine ⟨_, rfl, rfl, a, _, dd, oe, fs, xs, rfl, upd_same, by rw [upd_ne hne]; exact hd, hf, fun p H2 hp ex hl => ?_⟩
      have hpa : p ≠ a := fun z => by
        rw [z, upd_same] at hp
        cases hp
      refine k p (delA H2 a) (by rw [upd_ne hpa] at hp; exact hp) (fun b o _ hb => ?_) (by rw [delA_ne hpa]; exact hl)
      have hba : b ≠ a := fun z => by
        rw [z, ha] at hb
        cases hb
      rw [delA_ne hba]
      exact ex b o (by simp) (by rw [upd_ne hba]; exact hb)
/-- what _law_ask gives, by data -/
def askE (Q : VF.DV → Int → Prop) : XV := fun c ns es n' =>
  (c = "InvalidNumber" ∧ ns = nsN ∧ ∃ p, es = [.str "InvalidNumber", p] ∧ Q (.lst [.str "InvalidNumber", .str "InvalidNumber", p]) n') ∨
  (c = "TooMany" ∧ ns = nsT ∧ ∃ p q, es = [.str "TooMany", q, p] ∧ Q (.lst [.str "TooMany", .str "TooMany", p, q]) n')
def wAsk (wb : XV → WE) : WE := fun τ n Q => wb (askE fun d n' => Q d τ n') (hideO τ) n fun d _ n' => Q (.lst [.str "told", d]) τ n'
theorem y_ask {wb : XV → WE} {τ : VF.ST} {n : Int} {Q : VF.DV → VF.ST → Int → Prop} (k : wb (askE fun d n' => Q d τ n') (hideO τ) n fun d _ n' => Q (.lst [.str "told", d]) τ n') : wAsk wb τ n Q := k
section
variable {K : PySem.W.Frag} {W : Wc} {X : Cx} {e : Expr}
theorem cs_T (hC : Cs K W.toCf) : W.T = tabs K := by
  obtain ⟨b, sc, ns, e⟩ := hC
  show W.toCf.T = _
  rw [e]
  rfl
theorem ve_lambody2 {Cs : Cf → Prop} {wb : XV → WE} {E : XK} {body : Expr} (h : ∀ (W : Wc) (E1 : XV), Cs W.toCf → ELinkG K W E1 E → PE X body (liftE K W (wb E1))) : PE X body (liftLam K Cs wb E) := ⟨fun pins s σ H Q I ⟨W, h1, h2, q⟩ => (h W W.E' h1 h2).run pins s σ H Q I q⟩
theorem ve_ask {wb : XV → WE} (hC : Cs K W.toCf) (h : PE X e (LamX.tLam (tabs K) (TTa K) (liftLam K (Cs K) wb))) : PE X e (liftE K W (wAsk wb)) := BF.PE.imp h fun σ H Q ⟨Γ, O, τ, n, Q', q, hw, k⟩ => by
  have hT := cs_T hC
  refine ⟨by rw [← hT]; exact q.tab, fun H1 eN T1 => ?_⟩
  refine lam_in (O := O) (τ := τ) (n := n) hC q eN (by rw [hT]; exact T1) hw (fun c ns ws es dd H' n' r hd hl hes he => ?_) (fun v H' d τ' n' r hd hq => ?_)
  · rcases he with ⟨rfl, rfl, p, rfl, hq⟩ | ⟨rfl, rfl, p, t, rfl, hq⟩
    · cases hes with
      | cons d1 hes =>
        cases hes with
        | cons d2 hes =>
          cases hes
          cases d1
          refine ⟨_, dd, fsN [_], _, rfl, by simp, rfl, hd, .inl ⟨_, rfl, rfl, rfl⟩, fun p H2 hp ex h2 => ?_⟩
          have r2 := r.ex ex
          exact k _ H2 _ O τ n' r2 (.lst (LsM.of h2 (r.newO hp)) (.cons (.str _) (.cons (.str _) (.cons (VF.Dat.ey (Ey.ex0 ex) d2) .nil)))) hq
    · cases hes with
      | cons d1 hes =>
        cases hes with
        | cons d2 hes =>
          cases hes with
          | cons d3 hes =>
            cases hes
            cases d1
            refine ⟨_, dd, fsT [_, _], _, rfl, by simp, rfl, hd, .inr ⟨_, _, rfl, rfl, rfl⟩, fun p H2 hp ex h2 => ?_⟩
            have r2 := r.ex ex
            exact k _ H2 _ O τ n' r2 (.lst (LsM.of h2 (r.newO hp)) (.cons (.str _) (.cons (.str _) (.cons (VF.Dat.ey (Ey.ex0 ex) d3) (.cons (VF.Dat.ey (Ey.ex0 ex) d2) .nil))))) hq
  · refine ⟨by simp, fun p H2 hp ex h2 => ?_⟩
    have r2 := r.ex ex
    exact k _ H2 _ O τ n' r2 (.lst (LsM.of h2 (r.newO hp)) (.cons (.str _) (.cons (VF.Dat.ey (Ey.ex0 ex) hd) .nil))) hq
end
/-- how an asked deed ends -/
inductive ARes where
  | told (d : VF.DV) | num (p : VF.DV) | many (p q : VF.DV)
def aresV : ARes → VF.DV
  | .told d => .lst [.str "told", d]
  | .num p => .lst [.str "InvalidNumber", .str "InvalidNumber", p]
  | .many p q => .lst [.str "TooMany", .str "TooMany", p, q]
def aresR : ARes → (VF.DV → Int → Prop) → XV → Int → Prop
  | .told d, F, _, n => F d n
  | .num p, _, E, n => E "InvalidNumber" nsN (invN p) n
  | .many p q, _, E, n => E "TooMany" nsT [.str "TooMany", q, p] n
theorem y_ask2 {wb : XV → WE} {r : ARes} {τ : VF.ST} {n : Int} {Q : VF.DV → VF.ST → Int → Prop} (h : ∀ (F : VF.DV → Int → Prop) (E1 : XV), aresR r F E1 n → wb E1 (hideO τ) n fun d _ n' => F d n') (k : Q (aresV r) τ n) : wAsk wb τ n Q := by
  refine y_ask (h (fun d n' => Q (.lst [.str "told", d]) τ n') _ ?_)
  cases r with
  | told d => exact k
  | num p => exact .inl ⟨rfl, rfl, p, rfl, k⟩
  | many p q => exact .inr ⟨rfl, rfl, p, q, rfl, k⟩
end BF
/-! ## The law's plain defs, by data -/
namespace BF
open PySem PySem.Spec PyProof.Rows L2 VF
def lpI : List Int := [2, 3, 5, 7, 11, 13, 17, 41, 59, 61]
def sPrimes : DSp := fun ds n Q _ => ds = [] ∧ Q (.lst (VF.iD lpI)) n
def sWrong : DSp := fun ds n Q _ => ds = [.bag] ∧ n ≤ 900000 ∧ ∀ d, Pz 2 d → geB d 0 = false → Q d (n + 2)
def sNumber : DSp := fun ds n Q _ => ∃ (room m : Nat), ds = [.bag, .int room, .int m] ∧ 1 ≤ room ∧ room < 2 ^ 200 ∧ m ≤ 30 ∧ n ≤ 900000 ∧ ∀ e n', Ex10 m e → (∀ x ∈ e, 0 ≤ x) → nu lp e ≤ room → n' ≤ n + 61 → Q (.tup [.int (nu lp e), .lst (VF.iD e)]) n'
def sWorth : DSp := fun ds n Q _ => ∃ e m, ds = [.lst (VF.iD e)] ∧ Ex10 m e ∧ m ≤ 10000 ∧ Q (.int (nu lp e)) n
def pD : Option (List Int) → VF.DV
  | none => .non
  | some e => .lst (VF.iD e)
def adO : Option (List Int) → Option (List Int) → Option (List Int)
  | some e, some f => some (ad e f)
  | _, _ => none
def sSum : DSp := fun ds n Q _ => ∃ a b, ds = [pD a, pD b] ∧ (∀ e, a = some e → e.length = 10) ∧ (∀ e, b = some e → e.length = 10) ∧ Q (pD (adO a b)) n
def sListed : DSp := fun ds n Q _ => ∃ s k : Nat, ds = [.int s, .int k] ∧ 1 ≤ s ∧ s ≤ 64 ∧ k ≤ 99 ∧ s ^ k ≤ 300 ∧ Q (.lst (wlD s k)) n
theorem lp_fin : ∀ i, i < 10 → lp[i]? = some (lp.getD i 0) ∧ 1 < lp.getD i 0 ∧ lp.getD i 0 ≤ 61 ∧ lpI[i]? = some ((lp.getD i 0 : Nat) : Int) := by decide
theorem lp_prime : ∀ i, i < 10 → prsI.contains ((lp.getD i 0 : Nat) : Int) = true := by decide
theorem lp_at {z : Int} (z0 : 0 ≤ z) (z1 : z < 10) : ∃ p : Nat, lp[z.toNat]? = some p ∧ 1 < p ∧ p ≤ 61 ∧ atI (VF.iD lpI) z = some (.int p) ∧ primeB (.int p) = true := by
  obtain ⟨i, rfl⟩ := nat_of z0
  rw [Int.toNat_natCast]
  obtain ⟨h1, h2, h3, h4⟩ := lp_fin i (by omega)
  exact ⟨_, h1, h2, h3, atI_nat (by rw [VF.iD, List.getElem?_map, h4]; rfl), lp_prime i (by omega)⟩
theorem ex_at {m : Nat} {e : List Int} {z : Int} (h : Ex10 m e) (z0 : 0 ≤ z) (z1 : z < 10) : ∃ x, e[z.toNat]? = some x ∧ x ∈ e ∧ -(m : Int) ≤ x ∧ x ≤ m ∧ atI (VF.iD e) z = some (.int x) := by
  obtain ⟨i, rfl⟩ := nat_of z0
  rw [Int.toNat_natCast]
  have hi : i < e.length := by rw [h.1]; omega
  have hm := List.getElem_mem hi
  exact ⟨e[i], List.getElem?_eq_getElem hi, hm, (h.2 _ hm).1, (h.2 _ hm).2, atI_nat (by rw [VF.iD, List.getElem?_map, List.getElem?_eq_getElem hi]; rfl)⟩
theorem ex_up {m : Nat} {e : List Int} {i : Nat} {x : Int} (h : Ex10 m e) (hx : e[i]? = some x) (n0 : ∀ y ∈ e, 0 ≤ y) : Ex10 (m + 1) (e.set i (x + 1)) ∧ ∀ y ∈ e.set i (x + 1), 0 ≤ y := by
  have hm := List.mem_of_getElem? hx
  refine ⟨⟨by rw [List.length_set]; exact h.1, fun y hy => ?_⟩, fun y hy => ?_⟩
  · rcases List.mem_or_eq_of_mem_set hy with hy | rfl
    · have := h.2 y hy; omega
    · have := h.2 x hm; omega
  · rcases List.mem_or_eq_of_mem_set hy with hy | rfl
    · exact n0 y hy
    · have := n0 x hm; omega
section
variable {P : Program} {w : World} {K : PySem.W.Frag} {mg : Str → Option Value} {base : Heap}
theorem sc__law_primes : FnScope [] [] (defScope s__law_primes) := ⟨rfl, rfl, rfl, by decide +kernel, rfl, by decide +kernel, by decide +kernel⟩
theorem v__law_primes (T : TT K mg) : FnOk P w K mg base (L2.CX P w) 1 (He.ga K "_law_primes") (fdOf K ("_law_primes", none)) [] (liftSp K (Cs K) sPrimes) := by
  refine v_ok (F__law_primes T) sc__law_primes (by decide) (by decide) ?_ (fun cdv A outer s H W ds n Q' hC hE hr h => ⟨_, (vss_one (vs_ret (ps_ret (ve_lst (va_cons (ve_int pe_int) (va_cons (ve_int pe_int) (va_cons (ve_int pe_int) (va_cons (ve_int pe_int) (va_cons (ve_int pe_int) (va_cons (ve_int pe_int) (va_cons (ve_int pe_int) (va_cons (ve_int pe_int) (va_cons (ve_int pe_int) (va_cons (ve_int pe_int) va_nil)))))))))))))), ?_⟩)
  · rintro ds n Q E ⟨rfl, _⟩; rfl
  · obtain ⟨rfl, hq⟩ := h
    walk_at "vin"
    walk_at "vy"
    exact hq
theorem y_primes {n : Int} {Q : VF.DV → Int → Prop} {E : XV} (q : Q (.lst (VF.iD lpI)) n) : sPrimes ([] ++ []) n Q E := ⟨rfl, q⟩
theorem sc__law_wrong : FnScope ["_law_bag_here"] ["_law_bag_here"] (defScope s__law_wrong) := ⟨rfl, rfl, rfl, by decide +kernel, rfl, by decide +kernel, by decide +kernel⟩
theorem v__law_wrong (T : TT K mg) : FnOk P w K mg base (L2.CX P w) 3 (He.ga K "_law_wrong") (fdOf K ("_law_wrong", none)) ["_law_bag_here"] (liftSp K (Cs K) sWrong) := by
  refine v_ok (F__law_wrong T) sc__law_wrong (by decide) (by decide) ?_ (fun cdv A outer s H W ds n Q' hC hE hr h => ⟨_, (vss_one (vs_ret (ps_ret (ve_call hC hE (pe_call (v__law_of T) (hr.mono (by decide)) (by rfl) (T.glo "_law_of" rfl) (F__law_of T).kp (B__law_of T) .nil (passes_call (takes_of rfl rfl rfl rfl) (fun _ _ _ _ h => h)) (va_cons (ve_var (pv 0)) (va_cons (ve_lst (va_cons (ve_op op_sub d_I0 (ve_int pe_int) (ve_int pe_int)) (va_cons (ve_bl pe_bl) (va_cons (ve_bl pe_bl) (va_cons (ve_non pe_non) (va_cons (ve_str pe_str) (va_cons (ve_tup (va_cons (ve_int pe_int) va_nil)) (va_cons (ve_lst (va_cons (ve_int pe_int) va_nil)) (va_cons (ve_str pe_str) (va_cons (ve_op op_sub d_I0 (ve_op op_sub d_I0 (ve_int pe_int) (ve_int pe_int)) (ve_call hC hE (pe_call (v__law_draw T) (hr.mono (by decide)) (by rfl) (T.glo "_law_draw" rfl) (F__law_draw T).kp (B__law_draw T) .nil pass0 (va_cons (ve_var (pv 0)) (va_cons (ve_int pe_int) va_nil))) (fun _ _ _ => .nil))) (va_cons (ve_tup va_nil) va_nil))))))))))) va_nil))) (fun _ _ _ => .nil))))), ?_⟩)
  · rintro ds n Q E ⟨rfl, _⟩; rfl
  · obtain ⟨rfl, hn, hq⟩ := h
    walk_at "vin"
    walk_at "vy"
    refine y_draw (by omega) (by decide) (by decide) fun z z0 z1 => ?_
    walk_at "vy"
    refine y_of (by omega) (by simp) (by simp) fun j x hx => ?_
    have hm := List.mem_of_getElem? hx
    simp only [List.mem_cons, List.not_mem_nil, or_false] at hm
    have hz : geB (.int (0 - 1 - z)) 0 = false := decide_eq_false (by omega)
    rw [show n + 1 + 1 = n + 2 by omega]
    rcases hm with rfl | rfl | rfl | rfl | rfl | rfl | rfl | rfl | rfl | rfl
    · exact hq _ .int rfl
    · exact hq _ .bl rfl
    · exact hq _ .bl rfl
    · exact hq _ .non rfl
    · exact hq _ (.str (by decide +kernel)) rfl
    · exact hq _ (.tup (pz_one .int) (by decide)) rfl
    · exact hq _ (.lst (pz_one .int) (by decide)) rfl
    · exact hq _ (.str (by decide +kernel)) rfl
    · exact hq _ .int hz
    · exact hq _ (.tup pz_e (by decide)) rfl
theorem y_wrong {n : Int} {Q : VF.DV → Int → Prop} {E : XV} (h : n ≤ 900000) (q : ∀ d, Pz 2 d → geB d 0 = false → Q d (n + 2)) : sWrong ([.bag] ++ []) n Q E := ⟨rfl, h, q⟩
theorem sc__law_number : FnScope ["_law_bag_here", "_law_room", "_law_most_primes", "_law_worth_here", "_law_found", "_law_lap", "_law_k"] ["_law_bag_here", "_law_room", "_law_most_primes"] (defScope s__law_number) := ⟨rfl, rfl, rfl, by decide +kernel, rfl, by decide +kernel, by decide +kernel⟩
theorem v__law_number (T : TT K mg) : FnOk P w K mg base (L2.CX P w) 3 (He.ga K "_law_number") (fdOf K ("_law_number", none)) ["_law_bag_here", "_law_room", "_law_most_primes"] (liftSp K (Cs K) sNumber) := by
  refine v_ok (F__law_number T) sc__law_number (by decide) (by decide) ?_ (fun cdv A outer s H W ds n Q' hC hE hr h => ⟨_, (vss_cons (vs_parO2 (i := 3) (j := 4) (by decide) (ps_par (i := 3) (j := 4) rfl sc__law_number.nd rfl rfl (by decide) rfl rfl (pa_cons (ve_int pe_int) (pa_cons (vo_rep (pe_op op_rep (ve_lst (va_cons (ve_int pe_int) va_nil)) (ve_int pe_int))) pa_nil)) rfl))
  (vss_cons (vs_for (passes_of rfl) rfl (vi_rng1 (pi_range1 (by rfl) (T.free "range" rfl) (va_cons (ve_call hC hE (pe_call (v__law_draw T) (hr.mono (by decide)) (by rfl) (T.glo "_law_draw" rfl) (F__law_draw T).kp (B__law_draw T) .nil pass0 (va_cons (ve_var (pv 0)) (va_cons (ve_op (op_addD K) d_add (ve_var (pv 2)) (ve_int pe_int)) va_nil))) (fun _ _ _ => .nil)) va_nil))) (vg_name (pg_name (i := 5) sc__law_number.nd rfl (Or.inl rfl))) (vss_cons (vs_set (ps_set (i := 6) sc__law_number.nd rfl (Or.inl rfl) (ve_if (vt_cmp (op_eqU K hr.units) d_eq (ve_call hC hE (pe_call (v__law_draw T) (hr.mono (by decide)) (by rfl) (T.glo "_law_draw" rfl) (F__law_draw T).kp (B__law_draw T) .nil pass0 (va_cons (ve_var (pv 0)) (va_cons (ve_int pe_int) va_nil))) (fun _ _ _ => .nil)) (ve_int pe_int) (nomark _)) (ve_call hC hE (pe_call (v__law_draw T) (hr.mono (by decide)) (by rfl) (T.glo "_law_draw" rfl) (F__law_draw T).kp (B__law_draw T) .nil pass0 (va_cons (ve_var (pv 0)) (va_cons (ve_int pe_int) va_nil))) (fun _ _ _ => .nil)) (ve_call hC hE (pe_call (v__law_draw T) (hr.mono (by decide)) (by rfl) (T.glo "_law_draw" rfl) (F__law_draw T).kp (B__law_draw T) .nil pass0 (va_cons (ve_var (pv 0)) (va_cons (ve_int pe_int) va_nil))) (fun _ _ _ => .nil)))))
  (vss_one (vs_if (vt_cmp op_le d_IB (ve_op op_mulW d_I (ve_var (pv 3)) (ve_ix (ix_LTK K) d_ix (ve_call0 hC hE (pe_call0 (v__law_primes T) (hr.mono (by decide)) (by rfl) (T.glo "_law_primes" rfl) (F__law_primes T).kp (B__law_primes T) .nil (passes_call (takes_of rfl rfl rfl rfl) (fun _ _ _ _ h => h))) (fun _ _ _ => .nil)) (ve_var (pv 6)) (fun _ _ => rfl))) (ve_var (pv 1)) (nomark _)) (vss_cons (vs_set (ps_set (i := 3) sc__law_number.nd rfl (Or.inl rfl) (ve_op op_mulW d_I (ve_var (pv 3)) (ve_ix (ix_LTK K) d_ix (ve_call0 hC hE (pe_call0 (v__law_primes T) (hr.mono (by decide)) (by rfl) (T.glo "_law_primes" rfl) (F__law_primes T).kp (B__law_primes T) .nil (passes_call (takes_of rfl rfl rfl rfl) (fun _ _ _ _ h => h))) (fun _ _ _ => .nil)) (ve_var (pv 6)) (fun _ _ => rfl)))))
  (vss_one (vs_setI (ps_asg (ve_op (op_addD K) d_add (ve_ixV (pe_ix (ix_LTK K) (pv 4) (ve_var (pv 6)) (fun _ _ => rfl))) (ve_int pe_int)) (pg_sub (pv 4) (ve_var (pv 6)) set_list))))) vss_nil))))
  (vss_one (vs_ret (ps_ret (ve_tup (va_cons (ve_var (pv 3)) (va_cons (ve_var (pv 4)) va_nil)))))))), ?_⟩)
  · rintro ds n Q E ⟨_, _, rfl, _⟩; rfl
  · obtain ⟨room, m, rfl, r1, r2, hm, hn, hq⟩ := h
    walk_at "vin"
    walk_at "vy"
    refine VF.y_repO2 (by decide) (by decide) (by decide) ?_
    rw [show (List.replicate (Int.toNat 10) [VF.DV.int 0]).flatten = VF.iD (List.replicate 10 0) from rfl]
    walk_at "vy"
    refine y_draw (by omega) (by omega) (by omega) fun c c0 c1 => ?_
    walk_at "vy"
    refine VF.y_loop (fun i τ n' => n' ≤ n + 1 + 2 * i ∧ ∃ e o5 o6, τ = [some (.d .bag), some (.d (.int room)), some (.d (.int m)), some (.d (.int (nu lp e))), some (.own (VF.iD e)), o5, o6] ∧ Ex10 i e ∧ (∀ x ∈ e, 0 ≤ x) ∧ nu lp e ≤ room)
      ⟨by omega, List.replicate 10 0, none, none, by rw [nu_zero]; rfl, ⟨rfl, fun x hx => by rw [List.eq_of_mem_replicate hx]; decide⟩, fun x hx => by rw [List.eq_of_mem_replicate hx]; decide, by rw [nu_zero]; exact r1⟩ ?_ ?_
    · rintro i d τ n' hd ⟨hn', e, o5, o6, rfl, he, e0, er⟩
      have hi : i < c.toNat := by
        have := (List.getElem?_eq_some_iff.mp hd).1
        rwa [rngD_len] at this
      have hw : nu lp e < 2 ^ 200 := Nat.lt_of_le_of_lt er r2
      walk_at "vy"
      refine y_draw (by omega) (by decide) (by decide) fun b b0 b1 => ?_
      walk_at "vy"
      refine BF.x_ite (fun hb => ?_) (fun hb => ?_)
      all_goals
        walk_at "vy"
        refine y_draw (by omega) (by decide) (by decide) fun z z0 z1 => ?_
        obtain ⟨p, hp, p1, p2, ha, _⟩ := lp_at (z := z) z0 (by omega)
        obtain ⟨x, hx, _, _, _, hax⟩ := ex_at he z0 (by omega)
        have cm : CMulW (nu lp e : Nat) (p : Nat) := wide_mul (a := 200) (b := 7) (by rw [Int.natAbs_natCast]; exact hw) (by rw [Int.natAbs_natCast]; omega) (by decide) (by decide) (by decide)
        walk_at "vy"
        refine y_primes ?_
        walk_at "vy"
        refine VF.y_ixL ha ?_
        walk_at "vy"
        refine VF.y_I cm ?_
        walk_at "vy"
        refine BF.x_ite (fun hle => ?_) (fun hle => ?_)
        · walk_at "vy"
          refine y_primes ?_
          walk_at "vy"
          refine VF.y_ixL ha ?_
          walk_at "vy"
          refine VF.y_I cm ?_
          walk_at "vy"
          refine VF.y_ixO3 rfl hax ?_
          walk_at "vy"
          refine VF.y_setI2 rfl (VF.ixN_of z0 (by rw [List.length_map, he.1]; omega)) ?_
          walk_at "vy"
          obtain ⟨k1, k2⟩ := ex_up he hx e0
          have ew := nu_set hp hx (e0 x (List.mem_of_getElem? hx))
          have hle' : nu lp e * p ≤ room := by exact_mod_cast hle
          refine ⟨by omega, e.set z.toNat (x + 1), some (.d d), some (.d (.int z)), ?_, k1, k2, by rw [ew]; exact hle'⟩
          rw [ew, Int.natCast_mul, show VF.iD (e.set z.toNat (x + 1)) = (VF.iD e).set z.toNat (.int (x + 1)) from List.map_set ..]
        · walk_at "vy"
          exact ⟨by omega, e, _, _, rfl, he.mono (by omega), e0, er⟩
    · rintro τ n' ⟨hn', e, o5, o6, rfl, he, e0, er⟩
      rw [rngD_len] at hn' he
      walk_at "vy"
      exact hq e n' (he.mono (by omega)) e0 er (by omega)
theorem y_number {room m : Nat} {n : Int} {Q : VF.DV → Int → Prop} {E : XV} (h1 : 1 ≤ room) (h2 : room < 2 ^ 200) (h3 : m ≤ 30) (h4 : n ≤ 900000) (q : ∀ e n', Ex10 m e → (∀ x ∈ e, 0 ≤ x) → nu lp e ≤ room → n' ≤ n + 61 → Q (.tup [.int (nu lp e), .lst (VF.iD e)]) n') : sNumber ([.bag, .int room, .int m] ++ []) n Q E := ⟨room, m, rfl, h1, h2, h3, h4, q⟩
theorem sc__law_worth : FnScope ["_law_powers", "_law_found", "_law_prime", "_law_power", "_law_lap"] ["_law_powers"] (defScope s__law_worth) := ⟨rfl, rfl, rfl, by decide +kernel, rfl, by decide +kernel, by decide +kernel⟩
theorem v__law_worth (T : TT K mg) : FnOk P w K mg base (L2.CX P w) 3 (He.ga K "_law_worth") (fdOf K ("_law_worth", none)) ["_law_powers"] (liftSp K (Cs K) sWorth) := by
  refine v_ok (F__law_worth T) sc__law_worth (by decide) (by decide) ?_ (fun cdv A outer s H W ds n Q' hC hE hr h => ⟨_, (vss_cons (vs_set (ps_set (i := 1) sc__law_worth.nd rfl (Or.inl rfl) (ve_int pe_int)))
  (vss_cons (vs_for (passes_of rfl) rfl (vi_zip (RZ.pi_zipA (by rfl) (T.free "zip" rfl) (va_cons (ve_call0 hC hE (pe_call0 (v__law_primes T) (hr.mono (by decide)) (by rfl) (T.glo "_law_primes" rfl) (F__law_primes T).kp (B__law_primes T) .nil (passes_call (takes_of rfl rfl rfl rfl) (fun _ _ _ _ h => h))) (fun _ _ _ => .nil)) (va_cons (ve_var (pv 0)) va_nil)))) (vg_tup (m := 2) rfl rfl (vgs_cons (vg_name (pg_name (i := 2) sc__law_worth.nd rfl (Or.inl rfl))) (vgs_cons (vg_name (pg_name (i := 3) sc__law_worth.nd rfl (Or.inl rfl))) vgs_nil))) (vss_one (vs_for (passes_of rfl) rfl (vi_rng1 (pi_range1 (by rfl) (T.free "range" rfl) (va_cons (ve_cb (pe_callB (call_max2 rfl) (by rfl) (T.free "max" rfl) boot_max (va_cons (ve_int pe_int) (va_cons (ve_var (pv 3)) va_nil))) d_max2) va_nil))) (vg_name (pg_name (i := 4) sc__law_worth.nd rfl (Or.inl rfl))) (vss_one (vs_set (ps_set (i := 1) sc__law_worth.nd rfl (Or.inl rfl) (ve_op op_mulW d_I (ve_var (pv 1)) (ve_var (pv 2)))))))))
  (vss_one (vs_ret (ps_ret (ve_var (pv 1))))))), ?_⟩)
  · rintro ds n Q E ⟨_, _, rfl, _⟩; rfl
  · obtain ⟨e, m, rfl, he, hm, hq⟩ := h
    walk_at "vin"
    walk_at "vy"
    refine y_primes ?_
    walk_at "vy"
    rw [VF.zipD_map]
    refine VF.y_loop (fun i τ n' => n' = n ∧ ∃ o2 o3 o4, τ = [some (.d (.lst (VF.iD e))), some (.d (.int (nu (lp.take i) (e.take i)))), o2, o3, o4]) ⟨rfl, none, none, none, rfl⟩ ?_ ?_
    · rintro i d τ n' hd ⟨rfl, o2, o3, o4, rfl⟩
      rw [List.getElem?_map] at hd
      obtain ⟨⟨q, x⟩, hqx, rfl⟩ := Option.map_eq_some_iff.mp hd
      have hi : i < 10 := by
        have := (List.getElem?_eq_some_iff.mp hqx).1
        rw [List.length_zip] at this
        exact Nat.lt_of_lt_of_le this (Nat.min_le_left _ _)
      obtain ⟨k1, k2, k3, k4⟩ := lp_fin i hi
      obtain ⟨p, hp⟩ : ∃ p, lp.getD i 0 = p := ⟨_, rfl⟩
      rw [hp] at k1 k2 k3 k4
      have hi2 : i < e.length := by rw [he.1]; exact hi
      have hq : q = (p : Int) ∧ e[i]? = some x := by
        rw [List.getElem?_zip_eq_some] at hqx
        rw [k4] at hqx
        exact ⟨(Option.some.inj hqx.1).symm, hqx.2⟩
      obtain ⟨rfl, hx⟩ := hq
      have hxm := he.2 x (List.mem_of_getElem? hx)
      walk_at "vy"
      refine VF.y_loop (fun j τ n'' => n'' = n' ∧ ∃ o4, τ = [some (.d (.lst (VF.iD e))), some (.d (.int ((nu (lp.take i) (e.take i) * p ^ j : Nat) : Int))), some (.d (.int p)), some (.d (.int x)), o4]) ⟨rfl, _, by rw [Nat.pow_zero, Nat.mul_one]⟩ ?_ ?_
      · rintro j d τ n'' hd ⟨rfl, o4, rfl⟩
        have hj : j < (max 0 x).toNat := by
          have := (List.getElem?_eq_some_iff.mp hd).1
          rwa [rngD_len] at this
        have b := part_lt (j := j) he hi (show p ≤ 64 by omega) (by omega)
        walk_at "vy"
        refine VF.y_I (wide_mul (a := 60 * m + 1) (b := 7) (by rw [Int.natAbs_natCast]; exact b) (by rw [Int.natAbs_natCast]; omega) (by omega) (by decide) (by omega)) ?_
        walk_at "vy"
        exact ⟨rfl, _, by rw [Nat.pow_succ, ← Nat.mul_assoc, Int.natCast_mul (_ * _)]⟩
      · rintro τ n'' ⟨rfl, o4, rfl⟩
        rw [rngD_len, show (max 0 x).toNat = x.toNat by omega]
        have e1 := nu_take k1 hx
        walk_at "vy"
        exact ⟨rfl, _, _, _, by rw [e1]⟩
    · rintro τ n' ⟨rfl, o2, o3, o4, rfl⟩
      walk_at "vy"
      rw [List.length_map, List.length_zip, show lpI.length = 10 from rfl, he.1, List.take_of_length_le (show lp.length ≤ min 10 10 by decide), List.take_of_length_le (by rw [he.1]; decide)]
      exact hq
theorem sc__law_sum : FnScope ["_law_one", "_law_two", "_law_a", "_law_b"] ["_law_one", "_law_two"] (defScope s__law_sum) := ⟨rfl, rfl, rfl, by decide +kernel, rfl, by decide +kernel, by decide +kernel⟩
theorem v__law_sum (T : TT K mg) : FnOk P w K mg base (L2.CX P w) 3 (He.ga K "_law_sum") (fdOf K ("_law_sum", none)) ["_law_one", "_law_two"] (liftSp K (Cs K) sSum) := by
  refine v_ok (F__law_sum T) sc__law_sum (by decide) (by decide) ?_ (fun cdv A outer s H W ds n Q' hC hE hr h => ⟨_, (vss_one (vs_ret (ps_ret (ve_if (PW.pt (vw_or (vt_cmp op_isNX d_is (ve_var (pv 0)) (ve_non pe_non) (nomark _)) (vw_or1 (vt_cmp op_isNX d_is (ve_var (pv 1)) (ve_non pe_non) (nomark _))))) (ve_non pe_non) (ve_ofO (vo_lc (pe_lc (own := [("_law_a", 2), ("_law_b", 3)]) rfl sc__law_sum.nd (vi_zip (RZ.pi_zipA (by rfl) (T.free "zip" rfl) (va_cons (ve_var (pv 0)) (va_cons (ve_var (pv 1)) va_nil)))) (blkOk_by (N := ["_law_one", "_law_two", "_law_a", "_law_b"]) (sc := defScope s__law_sum) (by decide +kernel)) (fun _ _ _ _ _ => (vg_tup (m := 2) rfl rfl (vgs_cons (vg_name (pg_name (i := 2) sc__law_sum.nd rfl (Or.inl rfl))) (vgs_cons (vg_name (pg_name (i := 3) sc__law_sum.nd rfl (Or.inl rfl))) vgs_nil)))) (fun _ _ _ _ _ => vts_nil) (fun _ _ _ _ _ => (ve_op (op_addD K) d_add (ve_var (pv 2)) (ve_var (pv 3))))))))))), ?_⟩)
  · rintro ds n Q E ⟨_, _, rfl, _⟩; rfl
  · obtain ⟨a, b, rfl, ha, hb, hq⟩ := h
    cases a with
    | none =>
      unfold pD
      walk_at "vin"
      walk_at "vy"
      exact hq
    | some e =>
      cases b with
      | none =>
        unfold pD
        walk_at "vin"
        walk_at "vy"
        exact hq
      | some f =>
        unfold pD
        walk_at "vin"
        walk_at "vy"
        refine VF.y_lcA (e.zip f) (fun p => .tup [.int p.1, .int p.2]) (fun p => .int (p.1 + p.2)) VF.zipD_map (by rw [List.length_zip, ha e rfl]; omega) (fun j p acc R hj hacc hR => ?_) ?_
        · walk_at "vy"
          exact hR
        · walk_at "vy"
          have ee : (e.zip f).map (fun p => VF.DV.int (p.1 + p.2)) = VF.iD (ad e f) := by
            unfold VF.iD ad
            rw [← List.map_uncurry_zip_eq_zipWith, List.map_map]
            rfl
          rw [ee]
          exact hq
theorem y_sum {a b : Option (List Int)} {n : Int} {Q : VF.DV → Int → Prop} {E : XV} (h1 : ∀ e, a = some e → e.length = 10) (h2 : ∀ e, b = some e → e.length = 10) (q : Q (pD (adO a b)) n) : sSum ([pD a, pD b] ++ []) n Q E := ⟨a, b, rfl, h1, h2, q⟩
theorem y_worth {e : List Int} (m : Nat) {n : Int} {Q : VF.DV → Int → Prop} {E : XV} (h1 : Ex10 m e) (h2 : m ≤ 10000) (q : Q (.int (nu lp e)) n) : sWorth ([.lst (VF.iD e)] ++ []) n Q E := ⟨e, m, rfl, h1, h2, q⟩
theorem sc__law_listed : FnScope ["_law_signs", "_law_size", "_law_found", "_law_lap", "_law_longer", "_law_word", "_law_sign"] ["_law_signs", "_law_size"] (defScope s__law_listed) := ⟨rfl, rfl, rfl, by decide +kernel, rfl, by decide +kernel, by decide +kernel⟩
theorem v__law_listed (T : TT K mg) : FnOk P w K mg base (L2.CX P w) 3 (He.ga K "_law_listed") (fdOf K ("_law_listed", none)) ["_law_signs", "_law_size"] (liftSp K (Cs K) sListed) := by
  refine v_ok (F__law_listed T) sc__law_listed (by decide) (by decide) ?_ (fun cdv A outer s H W ds n Q' hC hE hr h => ⟨_, (vss_cons (vs_set (ps_set (i := 2) sc__law_listed.nd rfl (Or.inl rfl) (ve_lst (va_cons (ve_tup va_nil) va_nil))))
  (vss_cons (vs_for (passes_of rfl) rfl (vi_rng1 (pi_range1 (by rfl) (T.free "range" rfl) (va_cons (ve_var (pv 1)) va_nil))) (vg_name (pg_name (i := 3) sc__law_listed.nd rfl (Or.inl rfl))) (vss_cons (vs_set (ps_set (i := 4) sc__law_listed.nd rfl (Or.inl rfl) (ve_lst va_nil)))
  (vss_cons (vs_for (passes_of rfl) rfl (vi_list rfl (ve_var (pv 2))) (vg_name (pg_name (i := 5) sc__law_listed.nd rfl (Or.inr rfl))) (vss_one (vs_set (ps_set (i := 4) sc__law_listed.nd rfl (Or.inl rfl) (ve_op (op_addD K) d_add (ve_var (pv 4)) (ve_ofO (vo_lc (pe_lc (own := [("_law_sign", 6)]) rfl sc__law_listed.nd (vi_rng1 (pi_range1 (by rfl) (T.free "range" rfl) (va_cons (ve_var (pv 0)) va_nil))) (blkOk_by (N := ["_law_signs", "_law_size", "_law_found", "_law_lap", "_law_longer", "_law_word", "_law_sign"]) (sc := defScope s__law_listed) (by decide +kernel)) (fun _ _ _ _ _ => (vg_name (pg_name (i := 6) sc__law_listed.nd rfl (Or.inl rfl)))) (fun _ _ _ _ _ => vts_nil) (fun _ _ _ _ _ => (ve_op (op_addD K) d_add (ve_var (pv 5)) (ve_tup (va_cons (ve_var (pv 6)) va_nil))))))))))))
  (vss_one (vs_set (ps_set (i := 2) sc__law_listed.nd rfl (Or.inl rfl) (ve_var (pv 4))))))))
  (vss_one (vs_ret (ps_ret (ve_var (pv 2))))))), ?_⟩)
  · rintro ds n Q E ⟨_, _, rfl, _⟩; rfl
  · obtain ⟨s, k, rfl, s1, s2, hk, hs, hq⟩ := h
    walk_at "vin"
    walk_at "vy"
    refine VF.y_loop (fun i τ n' => n' = n ∧ ∃ o3 o4 o5, τ = [some (.d (.int s)), some (.d (.int k)), some (.d (.lst (wlD s i))), o3, o4, o5, none]) ⟨rfl, none, none, none, rfl⟩ ?_ ?_
    · rintro i d τ n' hd ⟨rfl, o3, o4, o5, rfl⟩
      have hi : i < k := by
        have := (List.getElem?_eq_some_iff.mp hd).1
        rw [rngD_len] at this
        omega
      have hl : s ^ (i + 1) ≤ 300 := Nat.le_trans (Nat.pow_le_pow_right (by omega) (by omega)) hs
      have hl0 : s ^ i ≤ 300 := Nat.le_trans (Nat.pow_le_pow_right (by omega) (by omega)) hl
      walk_at "vy"
      refine VF.y_loop (fun t τ n'' => n'' = n' ∧ ∃ o5, τ = [some (.d (.int s)), some (.d (.int k)), some (.d (.lst (wlD s i))), some (.d d), some (.d (.lst (((wl s i).take t).map fun w => (List.range s).map fun x => VF.DV.tup (nD (w ++ [x]))).flatten)), o5, none]) ⟨rfl, _, rfl⟩ ?_ ?_
      · rintro t wd τ n'' hwd ⟨rfl, o5, rfl⟩
        unfold wlD at hwd
        rw [List.getElem?_map] at hwd
        obtain ⟨w, hw, rfl⟩ := Option.map_eq_some_iff.mp hwd
        have ht : t < s ^ i := by
          have := (List.getElem?_eq_some_iff.mp hw).1
          rwa [wl_len] at this
        have lw : w.length ≤ 99 := by
          have hm := List.mem_of_getElem? hw
          unfold wl at hm
          obtain ⟨u, _, e⟩ := List.mem_map.mp hm
          rw [← e, dg_len]
          omega
        have lf : ∀ t, t ≤ s ^ i → ((((wl s i).take t).map fun w => (List.range s).map fun x => VF.DV.tup (nD (w ++ [x]))).flatten).length ≤ 300 := fun t ht => by
          rw [List.length_flatten, List.map_map]
          have e : (List.length ∘ fun w => (List.range s).map fun x => VF.DV.tup (nD (w ++ [x]))) = fun _ => s := by
            funext w
            simp
          rw [e, List.map_const', List.sum_replicate_nat, List.length_take, wl_len]
          have : min t (s ^ i) * s ≤ s ^ (i + 1) := by
            rw [Nat.pow_succ]
            exact Nat.mul_le_mul_right _ (Nat.min_le_right _ _)
          omega
        walk_at "vy"
        refine VF.y_lcA (List.range s) (fun x => .int (0 + (x : Nat))) (fun x => .tup (nD (w ++ [x]))) rfl (by rw [List.length_range]; omega) (fun j x acc R hj hacc hR => ?_) ?_
        · walk_at "vy"
          refine VF.y_addT (by rw [nD_len]; simp only [List.length_cons, List.length_nil]; omega) ?_
          walk_at "vy"
          have e : nD w ++ [VF.DV.int (0 + (x : Int))] = nD (w ++ [x]) := by
            unfold nD
            rw [List.map_append, Int.zero_add]
            rfl
          rw [e]
          exact hR
        · walk_at "vy"
          refine VF.y_addL (by rw [List.length_map, List.length_range]; have := lf t (by omega); omega) ?_
          walk_at "vy"
          refine ⟨rfl, some (.d (.tup (nD w))), ?_⟩
          rw [List.take_succ, hw]
          simp
      · rintro τ n'' ⟨rfl, o5, rfl⟩
        have e : (((wl s i).take (wlD s i).length).map fun w => (List.range s).map fun x => VF.DV.tup (nD (w ++ [x]))).flatten = wlD s (i + 1) := by
          unfold wlD
          rw [List.length_map, List.take_length, wl_succ, List.map_flatten, List.map_map]
          congr 1
          refine List.map_congr_left fun w _ => ?_
          simp
        rw [e]
        walk_at "vy"
        exact ⟨rfl, _, _, _, rfl⟩
    · rintro τ n' ⟨rfl, o3, o4, o5, rfl⟩
      rw [rngD_len, Int.toNat_natCast]
      walk_at "vy"
      exact hq
theorem y_listed {s k : Nat} {n : Int} {Q : VF.DV → Int → Prop} {E : XV} (h1 : 1 ≤ s) (h2 : s ≤ 64) (h3 : k ≤ 99) (h4 : s ^ k ≤ 300) (q : Q (.lst (wlD s k)) n) : sListed ([.int s, .int k] ++ []) n Q E := ⟨s, k, rfl, h1, h2, h3, h4, q⟩
end
end BF
/-! ## One ratio against its powers -/
namespace BF
open PySem PySem.Spec PyProof.Rows L2 VF
def RatOk (t b : Nat) (p : Option (List Int)) : Prop := t < 10 ^ 4300 ∧ b < 10 ^ 4300 ∧ match p with
  | none => t = 0 ∧ b = 1
  | some e => Ex10 10000 e ∧ t = nu lp e ∧ b = nu lp (ng e)
def sRatioSo : DSp := fun ds n Q _ => ∃ t b p, ds = [.bag, rD t b, pD p] ∧ n ≤ 800000 ∧ RatOk t b p ∧ ∀ n', n' ≤ n + 2 → Q (.bl true) n'
theorem tab_only {K : PySem.W.Frag} {mg : Str → Option Value} (T : TT K mg) (x : Str) (hx : x ∈ (["_law_ratio_so", "_law_ratios", "_law_refused_ratios", "_law_words", "_law_refused_words"] : List Str)) :
    ((He.cT K (x, none)).2, (x ++ ".<locals>." ++ "<lambda>" : Str)) ∈ tabs K ∧ ∀ p ∈ tabs K, p.1 = (He.cT K (x, none)).2 → p.2 = (x ++ ".<locals>." ++ "<lambda>" : Str) := by
  have h0 : ¬ (He.cT K ("_law_ratio_so", none)).2 = (He.cT K ("_law_ratios", none)).2 := by have h := m_20 T; simpa [more20] using h
  have h1 : ¬ (He.cT K ("_law_ratio_so", none)).2 = (He.cT K ("_law_refused_ratios", none)).2 := by have h := m_21 T; simpa [more21] using h
  have h2 : ¬ (He.cT K ("_law_ratios", none)).2 = (He.cT K ("_law_refused_ratios", none)).2 := by have h := m_22 T; simpa [more22] using h
  have h3 : ¬ (He.cT K ("_law_ratio_so", none)).2 = (He.cT K ("_law_words", none)).2 := by have h := m_23 T; simpa [more23] using h
  have h4 : ¬ (He.cT K ("_law_ratios", none)).2 = (He.cT K ("_law_words", none)).2 := by have h := m_24 T; simpa [more24] using h
  have h5 : ¬ (He.cT K ("_law_refused_ratios", none)).2 = (He.cT K ("_law_words", none)).2 := by have h := m_25 T; simpa [more25] using h
  have h6 : ¬ (He.cT K ("_law_ratio_so", none)).2 = (He.cT K ("_law_refused_words", none)).2 := by have h := m_26 T; simpa [more26] using h
  have h7 : ¬ (He.cT K ("_law_ratios", none)).2 = (He.cT K ("_law_refused_words", none)).2 := by have h := m_27 T; simpa [more27] using h
  have h8 : ¬ (He.cT K ("_law_refused_ratios", none)).2 = (He.cT K ("_law_refused_words", none)).2 := by have h := m_28 T; simpa [more28] using h
  have h9 : ¬ (He.cT K ("_law_words", none)).2 = (He.cT K ("_law_refused_words", none)).2 := by have h := m_29 T; simpa [more29] using h
  simp only [List.mem_cons, List.not_mem_nil, or_false] at hx
  unfold tabs
  rcases hx with rfl | rfl | rfl | rfl | rfl
  all_goals
    generalize (He.cT K ("_law_ratio_so", none)).2 = a0 at *
    generalize ("_law_ratio_so" ++ ".<locals>." ++ "<lambda>" : Str) = s0 at *
    generalize (He.cT K ("_law_ratios", none)).2 = a1 at *
    generalize ("_law_ratios" ++ ".<locals>." ++ "<lambda>" : Str) = s1 at *
    generalize (He.cT K ("_law_refused_ratios", none)).2 = a2 at *
    generalize ("_law_refused_ratios" ++ ".<locals>." ++ "<lambda>" : Str) = s2 at *
    generalize (He.cT K ("_law_words", none)).2 = a3 at *
    generalize ("_law_words" ++ ".<locals>." ++ "<lambda>" : Str) = s3 at *
    generalize (He.cT K ("_law_refused_words", none)).2 = a4 at *
    generalize ("_law_refused_words" ++ ".<locals>." ++ "<lambda>" : Str) = s4 at *
    refine ⟨by simp only [List.mem_cons, true_or, or_true], fun p hp e => ?_⟩
    simp only [List.mem_cons, List.not_mem_nil, or_false] at hp
    rcases hp with rfl | rfl | rfl | rfl | rfl
    all_goals first
      | with_reducible rfl
      | exact absurd e ‹_›
      | exact absurd e.symm ‹_›
theorem y_cut {s r : WS} {D : WEnds} {τ : VF.ST} {n : Int} (I : VF.ST → Int → Prop) (h2 : ∀ τ n, I τ n → r D τ n) (h1 : ∀ R : VF.ST → Int → Prop, (∀ τ n, I τ n → R τ n) → s { D with nx := R } τ n) : wSeq s r D τ n := h1 _ h2
theorem lay_tl {x : Str} : (PyData.str x).canLay0 = true ↔ ∀ c ∈ TL.tl x, c < 0x110000 := by
  show x.cps.all (· < 0x110000) = true ↔ _
  rw [← Array.all_toList, List.all_eq_true]
  exact ⟨fun h c hc => of_decide_eq_true (h c hc), fun h c hc => decide_eq_true (h c hc)⟩
theorem lay_app {x y : Str} (hx : (PyData.str x).canLay0 = true) (hy : (PyData.str y).canLay0 = true) : (PyData.str (x ++ y)).canLay0 = true := by
  rw [lay_tl] at hx hy ⊢
  intro c hc
  rw [TL.tl_append] at hc
  rcases List.mem_append.mp hc with h | h
  · exact hx c h
  · exact hy c h
theorem lay_string (x : String) : (PyData.str (Str.ofString x)).canLay0 = true := by
  rw [Str.ofString_eq_toList]
  show ((x.toList.map Char.toNat).toArray).all (· < 0x110000) = true
  rw [← Array.all_toList, List.all_eq_true]
  intro c hc
  obtain ⟨d, _, rfl⟩ := List.mem_map.mp hc
  have h : d.val.toNat < 0xd800 ∨ (0xdfff < d.val.toNat ∧ d.val.toNat < 0x110000) := d.valid
  exact decide_eq_true (by show d.val.toNat < 0x110000; omega)
theorem lay_tN {n : Nat} : (PyData.str (tN n)).canLay0 = true := lay_string _
section
variable {P : Program} {w : World} {K : PySem.W.Frag} {mg : Str → Option Value} {base : Heap}
theorem sc__law_ratio_so : FnScope ["_law_bag_here", "_law_ratio", "_law_powers", "_law_up", "_law_down", "_law_text", "_law_told", "_law_k", "_law_odd", "_law_prime", "_law_due", "_law_power"] ["_law_bag_here", "_law_ratio", "_law_powers"] (defScope s__law_ratio_so) := ⟨rfl, rfl, rfl, by decide +kernel, rfl, by decide +kernel, by decide +kernel⟩
theorem v__law_ratio_so (T : TT K mg) (hTB : ∀ p ∈ tf, LamX.TabB base mg (He.cT K p).1 (He.cT K p).2) : FnOk P w K mg base (L2.CX P w) 12 (He.ga K "_law_ratio_so") (fdOf K ("_law_ratio_so", none)) ["_law_bag_here", "_law_ratio", "_law_powers"] (liftSp K (Cs K) sRatioSo) := by
  obtain ⟨oc, od, dV, kV, doc, pm, an, cdv', ct, osl, hfd, lkT, hcT, _, _⟩ := (F__law_ask T).ex
  have bT := B__law_ask T
  rw [hfd] at bT lkT
  obtain ⟨hmT, huT⟩ := tab_only T "_law_ratio_so" (by simp)
  refine v_okL (p := ("_law_ratio_so", none)) (F__law_ratio_so T) sc__law_ratio_so (by decide) (by decide) ?_ (fun A outer s H W ds n Q' hC hE hr h => ⟨_, (vss_cons (vs_set (ps_set (i := 3) sc__law_ratio_so.nd rfl (Or.inl rfl) (ve_if (vt_cmp op_isNX d_is (ve_var (pv 2)) (ve_non pe_non) (nomark _)) (ve_int pe_int) (ve_call hC hE (pe_call (v__law_worth T) (hr.mono (by decide)) (by rfl) (T.glo "_law_worth" rfl) (F__law_worth T).kp (B__law_worth T) .nil (passes_call (takes_of rfl rfl rfl rfl) (fun _ _ _ _ h => h)) (va_cons (ve_var (pv 2)) va_nil)) (fun _ _ _ => .nil)))))
  (vss_cons (vs_set (ps_set (i := 4) sc__law_ratio_so.nd rfl (Or.inl rfl) (ve_if (vt_cmp op_isNX d_is (ve_var (pv 2)) (ve_non pe_non) (nomark _)) (ve_int pe_int) (ve_call hC hE (pe_call (v__law_worth T) (hr.mono (by decide)) (by rfl) (T.glo "_law_worth" rfl) (F__law_worth T).kp (B__law_worth T) .nil (passes_call (takes_of rfl rfl rfl rfl) (fun _ _ _ _ h => h)) (va_cons (ve_ofO (vo_lc (pe_lc (own := [("_law_power", 11)]) rfl sc__law_ratio_so.nd (vi_list rfl (ve_var (pv 2))) (blkOk_by (N := ["_law_bag_here", "_law_ratio", "_law_powers", "_law_up", "_law_down", "_law_text", "_law_told", "_law_k", "_law_odd", "_law_prime", "_law_due", "_law_power"]) (sc := defScope s__law_ratio_so) (by decide +kernel)) (fun _ _ _ _ _ => (vg_name (pg_name (i := 11) sc__law_ratio_so.nd rfl (Or.inl rfl)))) (fun _ _ _ _ _ => vts_nil) (fun _ _ _ _ _ => (ve_op op_sub d_I0 (ve_int pe_int) (ve_var (pv 11))))))) va_nil)) (fun _ _ _ => .nil)))))
  (vss_cons (vs_set (ps_set (i := 5) sc__law_ratio_so.nd rfl (Or.inl rfl) (ve_if (vt_cmp (op_eqU K hr.units) d_eq (ve_var (pv 4)) (ve_int pe_int) (nomark _)) (ve_cb (pe_callTy (call_strD (m_35 T) hr) (by rfl) (T.free "str" rfl) boot_str (va_cons (ve_var (pv 3)) va_nil)) d_strD) (ve_op (op_addD K) d_add (ve_op (op_addD K) d_add (ve_cb (pe_callTy (call_strD (m_35 T) hr) (by rfl) (T.free "str" rfl) boot_str (va_cons (ve_var (pv 3)) va_nil)) d_strD) (ve_str pe_str)) (ve_cb (pe_callTy (call_strD (m_35 T) hr) (by rfl) (T.free "str" rfl) boot_str (va_cons (ve_var (pv 4)) va_nil)) d_strD)))))
  (vss_cons (vs_set (ps_set (i := 6) sc__law_ratio_so.nd rfl (Or.inl rfl) (ve_lst (va_cons (ve_fld (pe_fldK K (ve_var (pv 1)))) (va_cons (ve_fld (pe_fldK K (ve_var (pv 1)))) (va_cons (ve_strO (cl := "Ratio") hC hE (pe_callTy (call_strOwn (v_Ratio___str__ T) (hr.mono (by decide)) (of_decide_eq_true (m_16 T)) (m_17 T) (B_Ratio___str__ T) (passes_call (takes_of rfl rfl rfl rfl) (fun _ _ _ _ h => h))) (by rfl) (T.free "str" rfl) boot_str (va_cons (ve_var (pv 1)) va_nil))) (va_cons (ve_strO (cl := "Ratio") hC hE (pe_callB (call_reprOwn (v_Ratio___repr__ T) (hr.mono (by decide)) (of_decide_eq_true (m_18 T)) (m_19 T) (B_Ratio___repr__ T) (passes_call (takes_of rfl rfl rfl rfl) (fun _ _ _ _ h => h))) (by rfl) (T.free "repr" rfl) boot_repr (va_cons (ve_var (pv 1)) va_nil))) va_nil)))))))
  (vss_cons (vs_if (vt_not (vt_val (ve_call hC hE (pe_call (v__law_like T 3) (hr.mono (by decide)) (by rfl) (T.glo "_law_like" rfl) (F__law_like T).kp (B__law_like T) .nil (passes_call (takes_of rfl rfl rfl rfl) (fun _ _ _ _ h => h)) (va_cons (ve_var (pv 6)) (va_cons (ve_lst (va_cons (ve_var (pv 3)) (va_cons (ve_var (pv 4)) (va_cons (ve_var (pv 5)) (va_cons (ve_op (op_addD K) d_add (ve_op (op_addD K) d_add (ve_op (op_addD K) d_add (ve_op (op_addD K) d_add (ve_str pe_str) (ve_cb (pe_callTy (call_strD (m_35 T) hr) (by rfl) (T.free "str" rfl) boot_str (va_cons (ve_var (pv 3)) va_nil)) d_strD)) (ve_str pe_str)) (ve_cb (pe_callTy (call_strD (m_35 T) hr) (by rfl) (T.free "str" rfl) boot_str (va_cons (ve_var (pv 4)) va_nil)) d_strD)) (ve_str pe_str)) va_nil))))) va_nil))) (fun _ _ _ => .nil)))) (vss_one (vs_ret (ps_ret (ve_bl pe_bl)))) vss_nil)
  (vss_cons (vs_asg (ps_asg (ve_tup (va_cons (ve_call hC hE (pe_call (v__law_draw T) (hr.mono (by decide)) (by rfl) (T.glo "_law_draw" rfl) (F__law_draw T).kp (B__law_draw T) .nil pass0 (va_cons (ve_var (pv 0)) (va_cons (ve_int pe_int) va_nil))) (fun _ _ _ => .nil)) (va_cons (ve_call hC hE (pe_call (v__law_of T) (hr.mono (by decide)) (by rfl) (T.glo "_law_of" rfl) (F__law_of T).kp (B__law_of T) .nil (passes_call (takes_of rfl rfl rfl rfl) (fun _ _ _ _ h => h)) (va_cons (ve_var (pv 0)) (va_cons (ve_lst (va_cons (ve_int pe_int) (va_cons (ve_int pe_int) (va_cons (ve_int pe_int) (va_cons (ve_int pe_int) (va_cons (ve_int pe_int) (va_cons (ve_int pe_int) (va_cons (ve_op (op_addD K) d_add (ve_int pe_int) (ve_op op_mulW d_I (ve_int pe_int) (ve_int pe_int))) (va_cons (ve_bl pe_bl) (va_cons (ve_non pe_non) (va_cons (ve_str pe_str) (va_cons (ve_op op_sub d_I0 (ve_int pe_int) (ve_int pe_int)) (va_cons (ve_tup (va_cons (ve_int pe_int) va_nil)) (va_cons (ve_int pe_int) va_nil)))))))))))))) va_nil))) (fun _ _ _ => .nil)) va_nil))) (vg_tup (m := 2) rfl rfl (vgs_cons (vg_name (pg_name (i := 7) sc__law_ratio_so.nd rfl (Or.inl rfl))) (vgs_cons (vg_name (pg_name (i := 8) sc__law_ratio_so.nd rfl (Or.inr rfl))) vgs_nil)))))
  (vss_cons (vs_set (ps_set (i := 9) sc__law_ratio_so.nd rfl (Or.inr rfl) (ve_ix (ix_LTK K) d_ix (ve_call0 hC hE (pe_call0 (v__law_primes T) (hr.mono (by decide)) (by rfl) (T.glo "_law_primes" rfl) (F__law_primes T).kp (B__law_primes T) .nil (passes_call (takes_of rfl rfl rfl rfl) (fun _ _ _ _ h => h))) (fun _ _ _ => .nil)) (ve_var (pv 7)) (fun _ _ => rfl))))
  (vss_cons (vs_set (ps_set (i := 10) sc__law_ratio_so.nd rfl (Or.inl rfl) (ve_if (vt_cmp op_isNX d_is (ve_var (pv 2)) (ve_non pe_non) (nomark _)) (ve_lst (va_cons (ve_str pe_str) (va_cons (ve_str pe_str) (va_cons (ve_int pe_int) va_nil)))) (ve_lst (va_cons (ve_str pe_str) (va_cons (ve_ix (ix_LTK K) d_ix (ve_var (pv 2)) (ve_var (pv 7)) (fun _ _ => rfl)) va_nil))))))
  (vss_cons (vs_if (vt_not (vt_val (ve_call hC hE (pe_call (v__law_like T 3) (hr.mono (by decide)) (by rfl) (T.glo "_law_like" rfl) (F__law_like T).kp (B__law_like T) .nil (passes_call (takes_of rfl rfl rfl rfl) (fun _ _ _ _ h => h)) (va_cons (ve_ask hC (LamX.pe_lamcall (k := 8) (T := tabs K) (by rfl) (T.glo "_law_ask" rfl) (F__law_ask T).kp lkT hcT bT sc__law_ask rfl (Or.inl rfl) (ask_gives T (hr.mono (by decide))) (hTB _ (by decide)) rfl hmT huT (hr.mono (by decide)) (LamX.lamS_by (sc := defScope s__law_ratio_so) (by decide +kernel)) rfl (fun _ _ _ _ _ => rfl) (fun A outer s H E f c' hr => ve_lambody2 fun W E1 hC hE => (ve_meth (cl := "Ratio") (m := "power") hC hE (pe_meth (ve_var (pv 1)) (T.cls "Ratio" rfl) (T.meth "Ratio" "power" rfl) (v_Ratio_power T) (hr.mono (by decide)) (B_Ratio_power T) .nil (passes_call (takes_of rfl rfl rfl rfl) (fun _ _ _ _ h => h)) (va_cons (ve_var (pv 9)) va_nil)) (fun _ _ _ => .nil))))) (va_cons (ve_var (pv 10)) va_nil))) (fun _ _ _ => .nil)))) (vss_one (vs_ret (ps_ret (ve_bl pe_bl)))) vss_nil)
  (vss_one (vs_ret (ps_ret (ve_call hC hE (pe_call (v__law_like T 3) (hr.mono (by decide)) (by rfl) (T.glo "_law_like" rfl) (F__law_like T).kp (B__law_like T) .nil (passes_call (takes_of rfl rfl rfl rfl) (fun _ _ _ _ h => h)) (va_cons (ve_ask hC (LamX.pe_lamcall (k := 8) (T := tabs K) (by rfl) (T.glo "_law_ask" rfl) (F__law_ask T).kp lkT hcT bT sc__law_ask rfl (Or.inl rfl) (ask_gives T (hr.mono (by decide))) (hTB _ (by decide)) rfl hmT huT (hr.mono (by decide)) (LamX.lamS_by (sc := defScope s__law_ratio_so) (by decide +kernel)) rfl (fun _ _ _ _ _ => rfl) (fun A outer s H E f c' hr => ve_lambody2 fun W E1 hC hE => (ve_meth (cl := "Ratio") (m := "power") hC hE (pe_meth (ve_var (pv 1)) (T.cls "Ratio" rfl) (T.meth "Ratio" "power" rfl) (v_Ratio_power T) (hr.mono (by decide)) (B_Ratio_power T) .nil (passes_call (takes_of rfl rfl rfl rfl) (fun _ _ _ _ h => h)) (va_cons (ve_var (pv 8)) va_nil)) (fun _ _ _ => .nil))))) (va_cons (ve_lst (va_cons (ve_str pe_str) (va_cons (ve_str pe_str) (va_cons (ve_var (pv 8)) va_nil)))) va_nil))) (fun _ _ _ => .nil)))))))))))))), ?_⟩)
  · rintro ds n Q E ⟨_, _, _, rfl, _⟩; rfl
  · obtain ⟨t, b, p, rfl, hn, hok, hq⟩ := h
    have a1 := aT T
    have a2 := aB T
    unfold rD
    walk_at "vin"
    have e0 : RatOk t b p := hok
    obtain ⟨ht, hb, hp⟩ := hok
    with_reducible refine y_cut (fun τ n' => n' = n ∧ τ = [some (.d .bag), some (.d (.ins "Ratio" ["top", "bottom"] [.int t, .int b])), some (.d (pD p)), some (.d (.int t)), none, none, none, none, none, none, none, none]) ?_ ?_
    rotate_left
    · intro R hR
      cases p with
      | none =>
        obtain ⟨rfl, rfl⟩ := hp
        unfold pD
        walk_at "vy"
        exact hR _ _ ⟨rfl, rfl⟩
      | some e =>
        obtain ⟨he, et, eb⟩ := hp
        unfold pD
        walk_at "vy"
        refine y_worth 10000 he (by decide) ?_
        rw [← et]
        walk_at "vy"
        exact hR _ _ ⟨rfl, rfl⟩
    rintro τ n' ⟨rfl, rfl⟩
    with_reducible refine y_cut (fun τ n'' => n'' = n' ∧ τ = [some (.d .bag), some (.d (.ins "Ratio" ["top", "bottom"] [.int t, .int b])), some (.d (pD p)), some (.d (.int t)), some (.d (.int b)), none, none, none, none, none, none, none]) ?_ ?_
    rotate_left
    · intro R hR
      cases p with
      | none =>
        obtain ⟨rfl, rfl⟩ := hp
        unfold pD
        walk_at "vy"
        exact hR _ _ ⟨rfl, rfl⟩
      | some e =>
        obtain ⟨he, et, eb⟩ := hp
        unfold pD
        walk_at "vy"
        refine VF.y_lcA e VF.DV.int (fun x => .int (0 - x)) rfl (by rw [he.1]; decide) (fun j x acc R hj hacc hR => ?_) ?_
        · walk_at "vy"
          exact hR
        · walk_at "vy"
          have ee : (e.map fun x => VF.DV.int (0 - x)) = VF.iD (ng e) := by
            unfold VF.iD ng
            rw [List.map_map]
            exact List.map_congr_left fun x _ => by simp
          rw [ee]
          refine y_worth 10000 he.ng (by decide) ?_
          rw [← eb]
          walk_at "vy"
          exact hR _ _ ⟨rfl, rfl⟩
    rintro τ n'' ⟨rfl, rfl⟩
    have lt := tN_len ht
    have lb := tN_len hb
    have l1 : ("Ratio(" : Str).length = 6 := rfl
    have l2 : (", " : Str).length = 2 := rfl
    have l3 : (")" : Str).length = 1 := rfl
    have l4 : ("/" : Str).length = 1 := rfl
    have nt : (t : Int).natAbs < 10 ^ 4300 := by rw [Int.natAbs_natCast]; exact ht
    have nb : (b : Int).natAbs < 10 ^ 4300 := by rw [Int.natAbs_natCast]; exact hb
    with_reducible refine y_cut (fun τ m => m = n'' ∧ τ = [some (.d .bag), some (.d (.ins "Ratio" ["top", "bottom"] [.int t, .int b])), some (.d (pD p)), some (.d (.int t)), some (.d (.int b)), some (.d (.str (rStr t b))), none, none, none, none, none, none]) ?_ ?_
    rotate_left
    · intro R hR
      walk_at "vy"
      refine BF.x_ite (fun h1 => ?_) (fun h1 => ?_)
      · walk_at "vy"
        refine VF.y_strD nt ?_
        walk_at "vy"
        have e : rStr t b = tN t := if_pos (by omega)
        exact hR _ _ ⟨rfl, by rw [e]; rfl⟩
      · walk_at "vy"
        refine VF.y_strD nt ?_
        walk_at "vy"
        refine VF.y_addS (x := tN t) (by omega) ?_
        walk_at "vy"
        refine VF.y_strD nb ?_
        walk_at "vy"
        refine VF.y_addS (y := tN b) (by rw [strLen_append]; omega) ?_
        walk_at "vy"
        have e : rStr t b = tN t ++ "/" ++ tN b := if_neg (by omega)
        exact hR _ _ ⟨rfl, by rw [e]⟩
    rintro τ m ⟨rfl, rfl⟩
    have lr : (PyData.str (rStr t b)).canLay0 = true := by
      unfold rStr
      split
      · exact lay_tN
      · exact lay_app (lay_app lay_tN (by decide +kernel)) lay_tN
    have lp' : (PyData.str (rRep t b)).canLay0 = true := lay_app (lay_app (lay_app (lay_app (by decide +kernel) lay_tN) (by decide +kernel)) lay_tN) (by decide +kernel)
    walk_at "vy"
    refine ⟨_, _, rfl, t, b, rfl, ht, hb, _, rfl, ?_⟩
    walk_at "vy"
    refine ⟨_, _, rfl, t, b, rfl, ht, hb, _, rfl, ?_⟩
    walk_at "vy"
    refine VF.y_strD nt ?_
    walk_at "vy"
    refine VF.y_addS (y := tN t) (by omega) ?_
    walk_at "vy"
    refine VF.y_addS (by rw [strLen_append]; omega) ?_
    walk_at "vy"
    refine VF.y_strD nb ?_
    walk_at "vy"
    refine VF.y_addS (y := tN b) (by rw [strLen_append, strLen_append]; omega) ?_
    walk_at "vy"
    refine VF.y_addS (by rw [strLen_append, strLen_append, strLen_append]; omega) ?_
    walk_at "vy"
    refine y_like (k := 3) (d := .lst [.int t, .int b, .str (rStr t b), .str (rRep t b)]) (.lst (pz_c .int (pz_c .int (pz_c (.str lr) (pz_one (.str lp'))))) (by simp)) ?_
    walk_at "vy"
    refine y_draw (by omega) (by decide) (by decide) fun k k0 k1 => ?_
    walk_at "vy"
    refine y_of (by omega) (by simp) (by simp) fun j odd hj => ?_
    obtain ⟨px, po⟩ : Pz 2 odd ∧ primeB odd = false := by
      have hm := List.mem_of_getElem? hj
      simp only [List.mem_cons, List.not_mem_nil, or_false] at hm
      rcases hm with rfl | rfl | rfl | rfl | rfl | rfl | rfl | rfl | rfl | rfl | rfl | rfl | rfl
      all_goals first
        | exact ⟨.int, by decide⟩
        | exact ⟨.bl, rfl⟩
        | exact ⟨.non, rfl⟩
        | exact ⟨.str (by decide +kernel), rfl⟩
        | exact ⟨.tup (pz_one .int) (by decide), rfl⟩
    obtain ⟨q, hq1, hq2, hq3, ha, hqp⟩ := lp_at (z := k) k0 k1
    walk_at "vy"
    refine y_primes ?_
    walk_at "vy"
    refine VF.y_ixL ha ?_
    walk_at "vy"
    have fin : ∀ (E1 : XV) (F : VF.DV → Int → Prop), aresR (.num odd) F E1 (m + 1 + 1) → sRPower (rD t b :: ([odd] ++ [])) (m + 1 + 1) F E1 := fun E1 F ho => y_power (px.1.mono (by decide)) (fun _ => ho) (fun z => by rw [po] at z; cases z) fun p' e1 z => by rw [po] at z; cases z
    have pl : Pz 2 (.lst [.str "InvalidNumber", .str "InvalidNumber", .int 0]) := .lst (pz_c (.str (by decide +kernel)) (pz_c (.str (by decide +kernel)) (pz_one .int))) (by simp)
    cases p with
    | none =>
      obtain ⟨rfl, rfl⟩ := hp
      unfold pD
      walk_at "vy"
      refine y_ask2 (r := .num (.int 0)) (fun F E1 ho => ?_) ?_
      · dsimp only [VF.hideO, List.map]
        walk_at "vy"
        refine y_meth2 rfl ?_
        walk_at "vy"
        exact y_power .int (fun z => by rw [hqp] at z; cases z) (fun _ _ => ho) fun p' e1 z h0 => absurd h0 (by decide)
      · dsimp only [aresV]
        walk_at "vy"
        refine y_like (pl.mono (by decide)) ?_
        walk_at "vy"
        refine y_ask2 (r := .num odd) (fun F E1 ho => ?_) ?_
        · dsimp only [VF.hideO, List.map]
          walk_at "vy"
          refine y_meth2 rfl ?_
          walk_at "vy"
          exact fin E1 _ ho
        · dsimp only [aresV]
          walk_at "vy"
          refine y_like (.lst (pz_c (.str (by decide +kernel)) (pz_c (.str (by decide +kernel)) (pz_one px))) (by simp)) ?_
          walk_at "vy"
          exact hq _ (by omega)
    | some e =>
      obtain ⟨he, et, eb⟩ := hp
      unfold pD
      walk_at "vy"
      obtain ⟨x, hx, _, _, _, hax⟩ := ex_at he k0 k1
      refine VF.y_ixL hax ?_
      walk_at "vy"
      have hnx : (ng e)[k.toNat]? = some (-x) := by rw [ng, List.getElem?_map, hx]; rfl
      obtain ⟨r1, c1, d1⟩ := nu_at lp_pc hq1 hx
      obtain ⟨r2, c2, d2⟩ := nu_at lp_pc hq1 hnx
      have t0 : 0 < t := by rw [et]; exact nu_pos lp_pc
      have b0 : 0 < b := by rw [eb]; exact nu_pos lp_pc
      refine y_ask2 (r := .told (.int x)) (fun F E1 ho => ?_) ?_
      · dsimp only [VF.hideO, List.map]
        walk_at "vy"
        refine y_meth2 rfl ?_
        walk_at "vy"
        refine y_power .int (fun z => by rw [hqp] at z; cases z) (fun _ z => by omega) fun p' e1 _ _ _ _ => ?_
        have e2 : p' = q := by injection e1 with e1; omega
        subst e2
        refine ⟨x.toNat, r1, (-x).toNat, r2, by rw [et, c1], by rw [eb, c2], Nat.pos_of_ne_zero fun z => ?_, Nat.pos_of_ne_zero fun z => ?_, d1, d2, ?_⟩
        · rw [et, c1, z] at t0; exact absurd t0 (by simp)
        · rw [eb, c2, z] at b0; exact absurd b0 (by simp)
        · rw [show ((x.toNat : Nat) : Int) - ((-x).toNat : Nat) = x by omega]
          exact ho
      · dsimp only [aresV]
        walk_at "vy"
        refine y_like (.lst (pz_c (.str (by decide +kernel)) (pz_one .int)) (by simp)) ?_
        walk_at "vy"
        refine y_ask2 (r := .num odd) (fun F E1 ho => ?_) ?_
        · dsimp only [VF.hideO, List.map]
          walk_at "vy"
          refine y_meth2 rfl ?_
          walk_at "vy"
          exact fin E1 _ ho
        · dsimp only [aresV]
          walk_at "vy"
          refine y_like (.lst (pz_c (.str (by decide +kernel)) (pz_c (.str (by decide +kernel)) (pz_one px))) (by simp)) ?_
          walk_at "vy"
          exact hq _ (by omega)
theorem y_ratioSo {t b : Nat} {p : Option (List Int)} {n : Int} {Q : VF.DV → Int → Prop} {E : XV} (hn : n ≤ 800000) (h : RatOk t b p) (q : ∀ n', n' ≤ n + 2 → Q (.bl true) n') : sRatioSo ([.bag, rD t b, pD p] ++ []) n Q E := ⟨t, b, p, rfl, hn, h, q⟩
end
end BF
/-! ## Drawn ratios -/
namespace BF
open PySem PySem.Spec PyProof.Rows L2 VF
def Drawn (t b : Nat) (p : Option (List Int)) : Prop := 0 < b ∧ Nat.Coprime t b ∧ t ≤ 10 ^ 40 ∧ b ≤ 10 ^ 40 ∧ match p with
  | none => t = 0 ∧ b = 1
  | some e => Ex10 60 e ∧ t = nu lp e ∧ b = nu lp (ng e)
def sDrawn : DSp := fun ds n Q _ => ds = [.bag] ∧ n ≤ 700000 ∧ ∀ t b p n', Drawn t b p → n' ≤ n + 260 → Q (.tup [rD t b, pD p]) n'
theorem drawn0 : Drawn 0 1 none := ⟨by decide, by decide, by decide, by decide, rfl, rfl⟩
theorem drawn_of {room : Nat} {u d : List Int} (hr : room ≤ 10 ^ 40) (hu : Ex10 30 u) (hd : Ex10 30 d) (u0 : ∀ x ∈ u, 0 ≤ x) (d0 : ∀ x ∈ d, 0 ≤ x) (ur : nu lp u ≤ room) (dr : nu lp d ≤ room) :
    ∃ g, 0 < g ∧ g < 2 ^ 8999 ∧ nu lp u = g * nu lp (ad u (ng d)) ∧ nu lp d = g * nu lp (ng (ad u (ng d))) ∧ Drawn (nu lp (ad u (ng d))) (nu lp (ng (ad u (ng d)))) (some (ad u (ng d))) := by
  obtain ⟨g, g0, e1, e2⟩ := nu_ratio hu hd u0 d0
  have hg : g ≤ 10 ^ 40 := by
    have : g ≤ nu lp u := by rw [e1]; exact Nat.le_mul_of_pos_right _ (nu_pos lp_pc)
    omega
  have h1 : nu lp (ad u (ng d)) ≤ nu lp u := by rw [e1]; exact Nat.le_mul_of_pos_left _ g0
  have h2 : nu lp (ng (ad u (ng d))) ≤ nu lp d := by rw [e2]; exact Nat.le_mul_of_pos_left _ g0
  refine ⟨g, g0, Nat.lt_of_le_of_lt hg ?_, e1, e2, nu_pos lp_pc, nu_cop lp_pc, by omega, by omega, hu.ad hd.ng, rfl, rfl⟩
  exact Nat.lt_of_lt_of_le (show (10 : Nat) ^ 40 < 2 ^ 133 by decide) (Nat.pow_le_pow_right (by decide) (by decide))
theorem ad_zero {u : List Int} (hu : Ex10 30 u) (u0 : ∀ x ∈ u, 0 ≤ x) {room : Nat} (hr : room ≤ 10 ^ 40) (ur : nu lp u ≤ room) : Drawn (nu lp u) 1 (some u) := by
  have h1 : nu lp (ng u) = 1 := nu_one fun x hx => by
    obtain ⟨y, hy, rfl⟩ := List.mem_map.mp hx
    have := u0 y hy
    omega
  exact ⟨by decide, Nat.coprime_one_right _, by omega, by decide, hu.mono (by decide), rfl, h1.symm⟩
theorem sub_data (u d : List Int) : (u.zip d).map (fun p => VF.DV.int (p.1 - p.2)) = VF.iD (ad u (ng d)) := by
  rw [← ad_ng_eq]
  unfold VF.iD
  rw [← List.map_uncurry_zip_eq_zipWith, List.map_map]
  rfl
theorem small9 {g : Nat} (h : g ≤ 10 ^ 40) : g < 2 ^ 8999 := Nat.lt_of_le_of_lt h (Nat.lt_of_lt_of_le (show (10 : Nat) ^ 40 < 2 ^ 133 by decide) (Nat.pow_le_pow_right (by decide) (by decide)))
section
variable {P : Program} {w : World} {K : PySem.W.Frag} {mg : Str → Option Value} {base : Heap}
theorem kb_Ratio (T : TT K mg) : ∃ its : List Value, KBn K (fdOf K ("Ratio", some "__init__")) ["self", "top", "bottom"] 1 ["bottom", "top"] (fun us ws => us ++ swp2 ws) (fun vs zs => vs ++ swp2 zs) :=
  (F_Ratio___init__ T).kbindsD 1 ["bottom", "top"] (fun us _ ws => us ++ swp2 ws) (by simp [He.DefD.dvs, d_Ratio___init__]) (fun r1 _ r3 => r1.append (swp2_vals r3)) fun _ _ _ _ _ _ _ us its ws h1 h2 h3 => match us, its, ws, h1, h2, h3 with | [_], [_], [_, _], _, _, _ => ⟨_, rfl, rfl⟩
theorem sc__law_drawn_ratio : FnScope ["_law_bag_here", "_law_room", "_law_up", "_law_down", "_law_way", "_law_powers", "_law_a", "_law_b"] ["_law_bag_here"] (defScope s__law_drawn_ratio) := ⟨rfl, rfl, rfl, by decide +kernel, rfl, by decide +kernel, by decide +kernel⟩
theorem v__law_drawn_ratio (T : TT K mg) : FnOk P w K mg base (L2.CX P w) 6 (He.ga K "_law_drawn_ratio") (fdOf K ("_law_drawn_ratio", none)) ["_law_bag_here"] (liftSp K (Cs K) sDrawn) := by
  obtain ⟨ds2, v2, b2⟩ := B_init2 T
  obtain ⟨ds1, v1, b1⟩ := B_init1 T
  obtain ⟨itsk, kbk⟩ := kb_Ratio T
  refine v_ok (F__law_drawn_ratio T) sc__law_drawn_ratio (by decide) (by decide) ?_ (fun cdv A outer s H W ds n Q' hC hE hr h => ⟨_, (vss_cons (vs_set (ps_set (i := 1) sc__law_drawn_ratio.nd rfl (Or.inl rfl) (ve_call hC hE (pe_call (v__law_of T) (hr.mono (by decide)) (by rfl) (T.glo "_law_of" rfl) (F__law_of T).kp (B__law_of T) .nil (passes_call (takes_of rfl rfl rfl rfl) (fun _ _ _ _ h => h)) (va_cons (ve_var (pv 0)) (va_cons (ve_lst (va_cons (ve_int pe_int) (va_cons (ve_int pe_int) (va_cons (ve_int pe_int) va_nil)))) va_nil))) (fun _ _ _ => .nil))))
  (vss_cons (vs_par3 (ps_par3 (i := 2) (j := 3) (l := 4) rfl sc__law_drawn_ratio.nd rfl rfl rfl (by decide) (by decide) (by decide) rfl rfl rfl (va_cons (ve_call hC hE (pe_call (v__law_number T) (hr.mono (by decide)) (by rfl) (T.glo "_law_number" rfl) (F__law_number T).kp (B__law_number T) .nil (passes_call (takes_of rfl rfl rfl rfl) (fun _ _ _ _ h => h)) (va_cons (ve_var (pv 0)) (va_cons (ve_var (pv 1)) (va_cons (ve_int pe_int) va_nil)))) (fun _ _ _ => .nil)) (va_cons (ve_call hC hE (pe_call (v__law_number T) (hr.mono (by decide)) (by rfl) (T.glo "_law_number" rfl) (F__law_number T).kp (B__law_number T) .nil (passes_call (takes_of rfl rfl rfl rfl) (fun _ _ _ _ h => h)) (va_cons (ve_var (pv 0)) (va_cons (ve_var (pv 1)) (va_cons (ve_int pe_int) va_nil)))) (fun _ _ _ => .nil)) (va_cons (ve_call hC hE (pe_call (v__law_draw T) (hr.mono (by decide)) (by rfl) (T.glo "_law_draw" rfl) (F__law_draw T).kp (B__law_draw T) .nil pass0 (va_cons (ve_var (pv 0)) (va_cons (ve_int pe_int) va_nil))) (fun _ _ _ => .nil)) va_nil))) rfl))
  (vss_cons (vs_setLc (ps_setLc (i := 5) (own := [("_law_a", 6), ("_law_b", 7)]) rfl sc__law_drawn_ratio.nd rfl rfl (sw_true rfl rfl rfl (by decide +kernel)) (vi_zip (RZ.pi_zipA (by rfl) (T.free "zip" rfl) (va_cons (ve_ix (ix_LTK K) d_ix (ve_var (pv 2)) (ve_int pe_int) (fun _ _ => rfl)) (va_cons (ve_ix (ix_LTK K) d_ix (ve_var (pv 3)) (ve_int pe_int) (fun _ _ => rfl)) va_nil)))) (blkOk_by (N := ["_law_bag_here", "_law_room", "_law_up", "_law_down", "_law_way", "_law_powers", "_law_a", "_law_b"]) (sc := defScope s__law_drawn_ratio) (by decide +kernel)) (fun _ _ _ _ _ => (vg_tup (m := 2) rfl rfl (vgs_cons (vg_name (pg_name (i := 6) sc__law_drawn_ratio.nd rfl (Or.inl rfl))) (vgs_cons (vg_name (pg_name (i := 7) sc__law_drawn_ratio.nd rfl (Or.inl rfl))) vgs_nil)))) (fun _ _ _ _ _ => vts_nil) (fun _ _ _ _ _ => (ve_op op_sub d_I0 (ve_var (pv 6)) (ve_var (pv 7))))))
  (vss_cons (vs_if (vt_cmp (op_eqU K hr.units) d_eq (ve_var (pv 4)) (ve_int pe_int) (nomark _)) (vss_one (vs_ret (ps_ret (ve_tup (va_cons (ve_call hC hE (pe_call (v__law_of T) (hr.mono (by decide)) (by rfl) (T.glo "_law_of" rfl) (F__law_of T).kp (B__law_of T) .nil (passes_call (takes_of rfl rfl rfl rfl) (fun _ _ _ _ h => h)) (va_cons (ve_var (pv 0)) (va_cons (ve_lst (va_cons (ve_make (cl := "Ratio") hC hE (pe_makeE (T.mkr "Ratio" rfl) (v_Ratio___init__ T) (hr.mono (by decide)) (by rfl) (T.glo "Ratio" rfl) b2 v2 (passes_call (takes_of rfl rfl rfl rfl) (fun _ _ _ _ h => h)) (va_cons (ve_int pe_int) (va_cons (ve_ix (ix_LTK K) d_ix (ve_var (pv 3)) (ve_int pe_int) (fun _ _ => rfl)) va_nil))) (fun _ _ _ => .nil)) (va_cons (ve_call hC hE (pe_call (v_count_ratio T) (hr.mono (by decide)) (by rfl) (T.glo "count_ratio" rfl) (F_count_ratio T).kp (B_count_ratio T) .nil (passes_call (takes_of rfl rfl rfl rfl) (fun _ _ _ _ h => h)) (va_cons (ve_int pe_int) (va_cons (ve_ix (ix_LTK K) d_ix (ve_var (pv 3)) (ve_int pe_int) (fun _ _ => rfl)) va_nil))) (fun _ _ _ => .nil)) (va_cons (ve_make (cl := "Ratio") hC hE (pe_makeE (T.mkr "Ratio" rfl) (v_Ratio___init__ T) (hr.mono (by decide)) (by rfl) (T.glo "Ratio" rfl) b1 v1 (passes_call (takes_of rfl rfl rfl rfl) (fun _ _ _ _ h => h)) (va_cons (ve_int pe_int) va_nil)) (fun _ _ _ => .cons (.int 1) .nil)) va_nil)))) va_nil))) (fun _ _ _ => .nil)) (va_cons (ve_non pe_non) va_nil)))))) vss_nil)
  (vss_cons (vs_if (vt_cmp (op_eqU K hr.units) d_eq (ve_var (pv 4)) (ve_int pe_int) (nomark _)) (vss_one (vs_ret (ps_ret (ve_tup (va_cons (ve_make (cl := "Ratio") hC hE (pe_makeE (T.mkr "Ratio" rfl) (v_Ratio___init__ T) (hr.mono (by decide)) (by rfl) (T.glo "Ratio" rfl) b1 v1 (passes_call (takes_of rfl rfl rfl rfl) (fun _ _ _ _ h => h)) (va_cons (ve_ix (ix_LTK K) d_ix (ve_var (pv 2)) (ve_int pe_int) (fun _ _ => rfl)) va_nil)) (fun _ _ _ => .cons (.int 1) .nil)) (va_cons (ve_ix (ix_LTK K) d_ix (ve_var (pv 2)) (ve_int pe_int) (fun _ _ => rfl)) va_nil)))))) vss_nil)
  (vss_cons (vs_if (vt_cmp (op_eqU K hr.units) d_eq (ve_var (pv 4)) (ve_int pe_int) (nomark _)) (vss_cons (vs_par (ps_par (i := 2) (j := 3) rfl sc__law_drawn_ratio.nd rfl rfl (by decide) rfl rfl (va_cons (ve_call hC hE (pe_call (v__law_number T) (hr.mono (by decide)) (by rfl) (T.glo "_law_number" rfl) (F__law_number T).kp (B__law_number T) .nil (passes_call (takes_of rfl rfl rfl rfl) (fun _ _ _ _ h => h)) (va_cons (ve_var (pv 0)) (va_cons (ve_op op_pow d_I (ve_int pe_int) (ve_int pe_int)) (va_cons (ve_int pe_int) va_nil)))) (fun _ _ _ => .nil)) (va_cons (ve_call hC hE (pe_call (v__law_number T) (hr.mono (by decide)) (by rfl) (T.glo "_law_number" rfl) (F__law_number T).kp (B__law_number T) .nil (passes_call (takes_of rfl rfl rfl rfl) (fun _ _ _ _ h => h)) (va_cons (ve_var (pv 0)) (va_cons (ve_op op_pow d_I (ve_int pe_int) (ve_int pe_int)) (va_cons (ve_int pe_int) va_nil)))) (fun _ _ _ => .nil)) va_nil)) rfl))
  (vss_one (vs_ret (ps_ret (ve_tup (va_cons (ve_call hC hE (pe_call (v_count_ratio T) (hr.mono (by decide)) (by rfl) (T.glo "count_ratio" rfl) (F_count_ratio T).kp (B_count_ratio T) .nil (passes_call (takes_of rfl rfl rfl rfl) (fun _ _ _ _ h => h)) (va_cons (ve_ix (ix_LTK K) d_ix (ve_var (pv 2)) (ve_int pe_int) (fun _ _ => rfl)) (va_cons (ve_ix (ix_LTK K) d_ix (ve_var (pv 3)) (ve_int pe_int) (fun _ _ => rfl)) va_nil))) (fun _ _ _ => .nil)) (va_cons (ve_ofO (vo_lc (pe_lc (own := [("_law_a", 6), ("_law_b", 7)]) rfl sc__law_drawn_ratio.nd (vi_zip (RZ.pi_zipA (by rfl) (T.free "zip" rfl) (va_cons (ve_ix (ix_LTK K) d_ix (ve_var (pv 2)) (ve_int pe_int) (fun _ _ => rfl)) (va_cons (ve_ix (ix_LTK K) d_ix (ve_var (pv 3)) (ve_int pe_int) (fun _ _ => rfl)) va_nil)))) (blkOk_by (N := ["_law_bag_here", "_law_room", "_law_up", "_law_down", "_law_way", "_law_powers", "_law_a", "_law_b"]) (sc := defScope s__law_drawn_ratio) (by decide +kernel)) (fun _ _ _ _ _ => (vg_tup (m := 2) rfl rfl (vgs_cons (vg_name (pg_name (i := 6) sc__law_drawn_ratio.nd rfl (Or.inl rfl))) (vgs_cons (vg_name (pg_name (i := 7) sc__law_drawn_ratio.nd rfl (Or.inl rfl))) vgs_nil)))) (fun _ _ _ _ _ => vts_nil) (fun _ _ _ _ _ => (ve_op op_sub d_I0 (ve_var (pv 6)) (ve_var (pv 7))))))) va_nil))))))) vss_nil)
  (vss_one (vs_ret (ps_ret (ve_tup (va_cons (ve_if (vt_cmp op_lt d_IB (ve_var (pv 4)) (ve_int pe_int) (nomark _)) (ve_make (cl := "Ratio") hC hE (pe_makeE (T.mkr "Ratio" rfl) (v_Ratio___init__ T) (hr.mono (by decide)) (by rfl) (T.glo "Ratio" rfl) b2 v2 (passes_call (takes_of rfl rfl rfl rfl) (fun _ _ _ _ h => h)) (va_cons (ve_ix (ix_LTK K) d_ix (ve_var (pv 2)) (ve_int pe_int) (fun _ _ => rfl)) (va_cons (ve_ix (ix_LTK K) d_ix (ve_var (pv 3)) (ve_int pe_int) (fun _ _ => rfl)) va_nil))) (fun _ _ _ => .nil)) (ve_makeK (cl := "Ratio") (gd := swp2) hC hE (pe_makeK0 (gV := fun vs zs => vs ++ swp2 zs) (T.mkr "Ratio" rfl) (v_Ratio___init__ T) (hr.mono (by decide)) (by rfl) (T.glo "Ratio" rfl) kbk (passes_call (takes_of rfl rfl rfl rfl) (fun _ _ _ _ h => h)) (vk_cons (ve_ix (ix_LTK K) d_ix (ve_var (pv 3)) (ve_int pe_int) (fun _ _ => rfl)) (vk_cons (ve_ix (ix_LTK K) d_ix (ve_var (pv 2)) (ve_int pe_int) (fun _ _ => rfl)) vk_nil))) swp2_dat)) (va_cons (ve_var (pv 5)) va_nil)))))))))))), ?_⟩)
  · rintro ds n Q E ⟨rfl, _⟩; rfl
  · obtain ⟨rfl, hn, hq⟩ := h
    have a1 := aT T
    have a2 := aB T
    walk_at "vin"
    walk_at "vy"
    refine y_of (by omega) (by simp) (by simp) fun j rm hj => ?_
    obtain ⟨room, rfl, r1, r2⟩ : ∃ room : Nat, rm = .int room ∧ 1 ≤ room ∧ room ≤ 10 ^ 40 := by
      have hm := List.mem_of_getElem? hj
      simp only [List.mem_cons, List.not_mem_nil, or_false] at hm
      rcases hm with rfl | rfl | rfl
      · exact ⟨30, rfl, by decide, by decide⟩
      · exact ⟨1000, rfl, by decide, by decide⟩
      · exact ⟨999999999, rfl, by decide, by decide⟩
    have r3 : room < 2 ^ 200 := Nat.lt_of_le_of_lt r2 (by decide)
    walk_at "vy"
    refine y_number (m := 12) r1 r3 (by decide) (by omega) fun u n1 hu u0 ur hn1 => ?_
    walk_at "vy"
    refine y_number (m := 12) r1 r3 (by decide) (by omega) fun d n2 hd d0 dr hn2 => ?_
    walk_at "vy"
    refine y_draw (by omega) (by decide) (by decide) fun wy w0 w1 => ?_
    walk_at "vy"
    refine VF.y_lcA (u.zip d) (fun p => .tup [.int p.1, .int p.2]) (fun p => .int (p.1 - p.2)) VF.zipD_map (by rw [List.length_zip, hu.1]; omega) (fun j p acc R hj hacc hR => ?_) ?_
    · walk_at "vy"
      exact hR
    rw [sub_data]
    walk_at "vy"
    refine BF.x_ite (fun h0 => ?_) (fun h0 => ?_)
    · walk_at "vy"
      have g0 : 0 < nu lp d := nu_pos lp_pc
      have g1 : nu lp d < 2 ^ 8999 := small9 (by omega)
      refine rinit_of (g := nu lp d) (t := 0) (b := 1) (by rw [Nat.mul_zero]; rfl) (by rw [Nat.mul_one]) g0 g1 (by decide) (by decide) ?_
      walk_at "vy"
      refine y_count ?_
      refine rinit_of (g := nu lp d) (t := 0) (b := 1) (by rw [Nat.mul_zero]; rfl) (by rw [Nat.mul_one]) g0 g1 (by decide) (by decide) ?_
      walk_at "vy"
      refine rinit_of (g := 1) (t := 0) (b := 1) rfl rfl (by decide) (lt_pow9 (by decide)) (by decide) (by decide) ?_
      walk_at "vy"
      refine y_of (by omega) (by simp) (by simp) fun j x hj => ?_
      have hx : x = rD 0 1 := by
        have hm := List.mem_of_getElem? hj
        simp only [List.mem_cons, List.not_mem_nil, or_false] at hm
        rcases hm with rfl | rfl | rfl <;> rfl
      subst hx
      walk_at "vy"
      exact hq 0 1 none _ drawn0 (by omega)
    · walk_at "vy"
      refine BF.x_ite (fun h1 => ?_) (fun h1 => ?_)
      · walk_at "vy"
        refine rinit_of (g := 1) (t := nu lp u) (b := 1) (by rw [Nat.one_mul]) rfl (by decide) (lt_pow9 (by decide)) (by decide) (Nat.coprime_one_right _) ?_
        walk_at "vy"
        exact hq _ _ (some u) _ (ad_zero (hu.mono (by decide)) u0 r2 ur) (by omega)
      · walk_at "vy"
        refine BF.x_ite (fun h2 => ?_) (fun h2 => ?_)
        · walk_at "vy"
          have e10 : (10 : Int) ^ Int.toNat 40 = ((10 ^ 40 : Nat) : Int) := by decide
          rw [e10]
          refine y_number (room := 10 ^ 40) (m := 30) (by decide) (by decide) (by decide) (by omega) fun u n3 hu u0 ur hn3 => ?_
          walk_at "vy"
          rw [e10]
          refine y_number (room := 10 ^ 40) (m := 30) (by decide) (by decide) (by decide) (by omega) fun d n4 hd d0 dr hn4 => ?_
          walk_at "vy"
          obtain ⟨g, g0, g1, e1, e2, hD⟩ := drawn_of (Nat.le_refl _) hu hd u0 d0 ur dr
          refine y_count ?_
          refine rinit_of (g := g) (by rw [e1]) (by rw [e2]) g0 g1 hD.1 hD.2.1 ?_
          walk_at "vy"
          refine VF.y_lcA (u.zip d) (fun p => .tup [.int p.1, .int p.2]) (fun p => .int (p.1 - p.2)) VF.zipD_map (by rw [List.length_zip, hu.1]; omega) (fun j p acc R hj hacc hR => ?_) ?_
          · walk_at "vy"
            exact hR
          rw [sub_data]
          walk_at "vy"
          exact hq _ _ (some _) _ hD (by omega)
        · walk_at "vy"
          obtain ⟨g, g0, g1, e1, e2, hD⟩ := drawn_of r2 (hu.mono (by decide)) (hd.mono (by decide)) u0 d0 ur dr
          obtain ⟨_, b0⟩ := id hD
          refine BF.x_ite (fun h3 => ?_) (fun h3 => ?_)
          · walk_at "vy"
            refine rinit_of (g := g) (by rw [e1]) (by rw [e2]) g0 g1 hD.1 hD.2.1 ?_
            walk_at "vy"
            exact hq _ _ (some _) _ hD (by omega)
          · walk_at "vy"
            refine ⟨rfl, ?_⟩
            refine rinit_of (g := g) (by rw [e1]) (by rw [e2]) g0 g1 hD.1 hD.2.1 ?_
            walk_at "vy"
            exact hq _ _ (some _) _ hD (by omega)
theorem y_drawn {n : Int} {Q : VF.DV → Int → Prop} {E : XV} (h : n ≤ 700000) (q : ∀ t b p n', Drawn t b p → n' ≤ n + 260 → Q (.tup [rD t b, pD p]) n') : sDrawn ([.bag] ++ []) n Q E := ⟨rfl, h, q⟩
end
end BF
/-! ## Two drawn ratios -/
namespace BF
open PySem PySem.Spec PyProof.Rows L2 VF
def sRatios : DSp := fun ds n Q _ => ds = [.bag] ∧ n ≤ 600000 ∧ ∀ n', n' ≤ n + 2000 → Q (.bl true) n'
theorem lt43 {x : Nat} (h : x ≤ 10 ^ 40) : x < 10 ^ 4300 := Nat.lt_of_le_of_lt h (Nat.pow_lt_pow_right (by decide) (by decide))
theorem Drawn.rat {t b : Nat} {p : Option (List Int)} (h : Drawn t b p) : RatOk t b p := by
  obtain ⟨h1, h2, h3, h4, h5⟩ := h
  refine ⟨lt43 h3, lt43 h4, ?_⟩
  cases p with
  | none => exact h5
  | some e => exact ⟨h5.1.mono (by decide), h5.2⟩
theorem Drawn.inv {t b : Nat} {e : List Int} (h : Drawn t b (some e)) : 0 < t ∧ RatOk b t (some (ng e)) := by
  obtain ⟨h1, h2, h3, h4, he, et, eb⟩ := h
  exact ⟨by rw [et]; exact nu_pos lp_pc, lt43 h4, lt43 h3, (he.ng.mono (by decide)), eb, by rw [ng_ng]; exact et⟩
theorem Drawn.mul {t b t' b' : Nat} {p p' : Option (List Int)} (h : Drawn t b p) (h' : Drawn t' b' p') : ∃ g T B, t * t' = g * T ∧ b * b' = g * B ∧ 0 < g ∧ g < 2 ^ 8999 ∧ 0 < B ∧ Nat.Coprime T B ∧ RatOk T B (adO p p') := by
  obtain ⟨b0, hc, tl, bl, hp⟩ := h
  obtain ⟨b0', hc', tl', bl', hp'⟩ := h'
  have z : RatOk 0 1 none := ⟨lt43 (by decide), lt43 (by decide), rfl, rfl⟩
  cases p with
  | none =>
    obtain ⟨rfl, rfl⟩ := hp
    exact ⟨b', 0, 1, by rw [Nat.zero_mul, Nat.mul_zero], by rw [Nat.one_mul, Nat.mul_one], b0', small9 bl', by decide, by decide, z⟩
  | some e =>
    cases p' with
    | none =>
      obtain ⟨rfl, rfl⟩ := hp'
      exact ⟨b, 0, 1, by rw [Nat.mul_zero, Nat.mul_zero], rfl, b0, small9 bl, by decide, by decide, z⟩
    | some f =>
      obtain ⟨he, et, eb⟩ := hp
      obtain ⟨hf, et', eb'⟩ := hp'
      obtain ⟨g, g0, g1, e1, e2⟩ := nu_mul (m := 60) (e := e) (f := f) lp_pc (by rw [he.1, hf.1]) fun i x y hx _ => .inl (he.2 x (List.mem_of_getElem? hx))
      have t1 : nu lp (ad e f) ≤ 10 ^ 40 * 10 ^ 40 := by
        refine Nat.le_trans (Nat.le_mul_of_pos_left _ g0) ?_
        rw [← e1, ← et, ← et']
        exact Nat.mul_le_mul tl tl'
      have t2 : nu lp (ng (ad e f)) ≤ 10 ^ 40 * 10 ^ 40 := by
        refine Nat.le_trans (Nat.le_mul_of_pos_left _ g0) ?_
        rw [← e2, ← eb, ← eb']
        exact Nat.mul_le_mul bl bl'
      have l80 : ∀ {x : Nat}, x ≤ 10 ^ 40 * 10 ^ 40 → x < 10 ^ 4300 := fun h => Nat.lt_of_le_of_lt (by rwa [← Nat.pow_add] at h) (Nat.pow_lt_pow_right (by decide) (show 40 + 40 < 4300 by decide))
      refine ⟨g, _, _, by rw [et, et']; exact e1, by rw [eb, eb']; exact e2, g0, ?_, nu_pos lp_pc, nu_cop lp_pc, l80 t1, l80 t2, (he.ad hf).mono (by decide), rfl, rfl⟩
      refine Nat.lt_of_le_of_lt g1 ?_
      rw [show (64 : Nat) = 2 ^ 6 from rfl, ← Nat.pow_mul]
      exact Nat.pow_lt_pow_right (by decide) (by decide)
/-- powers that stay small -/
def KB (t b : Nat) (k : Int) : Prop := (t ≤ 10 ^ 40 ∧ b ≤ 10 ^ 40 ∧ k.natAbs ≤ 12) ∨ (t ≤ 10 ^ 14 ∧ b ≤ 10 ^ 14 ∧ k.natAbs ≤ 99)
theorem KB.lt {t b : Nat} {k : Int} (h : KB t b k) : t ^ k.natAbs < 10 ^ 4300 ∧ b ^ k.natAbs < 10 ^ 4300 ∧ k.natAbs ≤ 99 := by
  have key : ∀ {x a m : Nat}, x ≤ 10 ^ a → k.natAbs ≤ m → a * m < 4300 → x ^ k.natAbs < 10 ^ 4300 := fun {x a m} h1 h2 h3 => by
    refine Nat.lt_of_le_of_lt (Nat.pow_le_pow_left h1 _) ?_
    rw [← Nat.pow_mul]
    exact Nat.pow_lt_pow_right (by decide) (Nat.lt_of_le_of_lt (Nat.mul_le_mul_left a h2) h3)
  rcases h with ⟨h1, h2, h3⟩ | ⟨h1, h2, h3⟩
  · exact ⟨key h1 h3 (by decide), key h2 h3 (by decide), by omega⟩
  · exact ⟨key h1 h3 (by decide), key h2 h3 (by decide), h3⟩
theorem Drawn.pow {t b : Nat} {e : List Int} {k : Int} (h : Drawn t b (some e)) (hk : KB t b k) : (0 ≤ k → RatOk (t ^ k.natAbs) (b ^ k.natAbs) (some (sc k e))) ∧ (k < 0 → RatOk (b ^ k.natAbs) (t ^ k.natAbs) (some (sc k e))) := by
  obtain ⟨l1, l2, l3⟩ := hk.lt
  obtain ⟨h1, h2, h3, h4, he, et, eb⟩ := h
  have hs : Ex10 10000 (sc k e) := he.sc.mono (by have := Nat.mul_le_mul_left 60 l3; omega)
  refine ⟨fun h0 => ⟨l1, l2, hs, by rw [et]; exact nu_pow_abs h0, ?_⟩, fun h0 => ⟨l2, l1, hs, ?_, ?_⟩⟩
  · rw [eb, nu_pow_abs h0, sc_ng]
  · have e1 := nu_pow_abs (k := -k) (e := ng e) (by omega)
    rw [Int.natAbs_neg, sc_ng, sc_neg, ng_ng] at e1
    rw [eb]
    exact e1
  · have e1 := nu_pow_abs (k := -k) (e := e) (by omega)
    rw [Int.natAbs_neg, sc_neg] at e1
    rw [et]
    exact e1
theorem kb_small {t b : Nat} {p : Option (List Int)} (h : Drawn t b p) {k : Int} (hk : k.natAbs ≤ 12) : KB t b k := .inl ⟨h.2.2.1, h.2.2.2.1, hk⟩
theorem tN_digits {n : Nat} (h : (tN n).length ≤ 14) : n ≤ 10 ^ 14 := by
  unfold tN at h
  rw [PySem.ofString_length] at h
  have h : (Nat.repr n).length ≤ 14 := h
  have := (Nat.length_repr_le_iff (n := n) (k := 14) (by decide)).mp h
  omega
/-- two drawn ratios are one just where their powers are -/
theorem drawn_eq {t b t' b' : Nat} {p p' : Option (List Int)} (h : Drawn t b p) (h' : Drawn t' b' p') : (decide (t = t') && decide (b = b')) = decide (p = p') := by
  obtain ⟨b0, hc, tl, bl, hp⟩ := h
  obtain ⟨b0', hc', tl', bl', hp'⟩ := h'
  cases p with
  | none =>
    obtain ⟨rfl, rfl⟩ := hp
    cases p' with
    | none =>
      obtain ⟨rfl, rfl⟩ := hp'
      rfl
    | some f =>
      obtain ⟨hf, et', eb'⟩ := hp'
      have : 0 < t' := by rw [et']; exact nu_pos lp_pc
      rw [decide_eq_false (show ¬ 0 = t' by omega), Bool.false_and]
      rfl
  | some e =>
    obtain ⟨he, et, eb⟩ := hp
    cases p' with
    | none =>
      obtain ⟨rfl, rfl⟩ := hp'
      have : 0 < t := by rw [et]; exact nu_pos lp_pc
      rw [decide_eq_false (show ¬ t = 0 by omega), Bool.false_and]
      rfl
    | some f =>
      obtain ⟨hf, et', eb'⟩ := hp'
      by_cases c : e = f
      · subst c
        rw [decide_eq_true (show t = t' by rw [et, et']), decide_eq_true (show b = b' by rw [eb, eb']), decide_eq_true rfl]
        rfl
      · have nc : ¬ (t = t' ∧ b = b') := fun z => c (nu_inj lp_pc he.1 hf.1 (by rw [← et, ← et', z.1]) (by rw [← eb, ← eb', z.2]))
        rw [decide_eq_false (show ¬ some e = some f from fun z => c (Option.some.inj z))]
        by_cases d : t = t'
        · rw [decide_eq_false (show ¬ b = b' from fun z => nc ⟨d, z⟩), Bool.and_false]
        · rw [decide_eq_false d, Bool.false_and]
theorem len10 {t b : Nat} {p : Option (List Int)} (h : Drawn t b p) : ∀ e, p = some e → e.length = 10 := fun e he => by
  subst he
  exact h.2.2.2.2.1.1
theorem y_eqP {p p' : Option (List Int)} {R : DP} (k : R (.bl (decide (p = p')))) : wEq false (pD p) (pD p') R := by
  have sh : ∀ q : Option (List Int), ∃ x, toPy (pD q) = some x ∧ SeqAt.shaped x = true ∧ x = (match q with | none => PyData.none | some e => .list (e.map PyData.int)) := fun q => by
    cases q with
    | none => exact ⟨_, rfl, rfl, rfl⟩
    | some e =>
      refine ⟨_, VF.toPy_lst (f := VF.DV.int) (h := PyData.int) fun _ _ => rfl, ?_, rfl⟩
      exact (VF.Sh.list fun x hx => by
        obtain ⟨i, _, rfl⟩ := List.mem_map.mp hx
        exact (VF.Sh.int (k := 0))).ok (by decide)
  obtain ⟨x, hx, sx, ex⟩ := sh p
  obtain ⟨y, hy, sy, ey⟩ := sh p'
  refine VF.y_eqD hx hy sx sy ?_ k
  subst ex ey
  cases p <;> cases p'
  · rfl
  · rfl
  · rfl
  · show PyData.eqv (.list _) (.list _) = _
    simp only [PyData.eqv, VF.eqvAll_ints]
    exact decide_eq_decide.mpr ⟨fun h => by rw [h], fun h => Option.some.inj h⟩
theorem lt134 {x : Nat} (h : x ≤ 10 ^ 40) : x < 2 ^ 134 := Nat.lt_of_le_of_lt h (by decide)
theorem y_raisedD {t b : Nat} {e : List Int} {k n : Int} {Q : VF.DV → Int → Prop} {E : XV} (hD : Drawn t b (some e)) (hk : KB t b k) (key : ∀ T B, RatOk T B (some (sc k e)) → Q (rD T B) n) : sRRaised (rD t b :: ([.int k] ++ [])) n Q E :=
  y_raised 134 hD.1 hD.2.1 (lt134 hD.2.2.1) (lt134 hD.2.2.2.1) (by decide) (by have := hk.lt.2.2; omega) (by have := hk.lt.2.2; omega) (fun h => key _ _ ((hD.pow hk).1 h)) (fun _ z => absurd hD.inv.1 (by omega)) fun h _ => key _ _ ((hD.pow hk).2 h)
theorem y_raised0 {k n : Int} {Q : VF.DV → Int → Prop} {E : XV} (hk : k.natAbs ≤ 99) (h0 : 0 < k → Q (rD 0 1) n) (h1 : k = 0 → Q (rD 1 1) n) (h2 : k < 0 → E "InvalidNumber" nsN (invN (.int 0)) n) : sRRaised (rD 0 1 :: ([.int k] ++ [])) n Q E :=
  y_raised 1 (by decide) (by decide) (by decide) (by decide) (by decide) (by omega) (by omega) (fun h => by
    rw [Nat.one_pow]
    by_cases c : k = 0
    · rw [c]; exact h1 c
    · rw [Nat.zero_pow (by omega)]; exact h0 (by omega)) (fun h _ => h2 h) fun _ h => absurd h (by decide)
theorem zero10 : RatOk 1 1 (some (List.replicate 10 0)) := ⟨lt43 (by decide), lt43 (by decide), ⟨rfl, fun x hx => by rw [List.eq_of_mem_replicate hx]; decide⟩, (nu_zero lp 10).symm, (nu_zero lp 10).symm⟩
section
variable {P : Program} {w : World} {K : PySem.W.Frag} {mg : Str → Option Value} {base : Heap}
theorem sc__law_ratios : FnScope ["_law_bag_here", "_law_one", "_law_two", "_law_k", "_law_ratio", "_law_powers", "_law_refused", "_law_above", "_law_asks", "_law_a", "_law_j"] ["_law_bag_here"] (defScope s__law_ratios) := ⟨rfl, rfl, rfl, by decide +kernel, rfl, by decide +kernel, by decide +kernel⟩
theorem v__law_ratios (T : TT K mg) (hTB : ∀ p ∈ tf, LamX.TabB base mg (He.cT K p).1 (He.cT K p).2) : FnOk P w K mg base (L2.CX P w) 14 (He.ga K "_law_ratios") (fdOf K ("_law_ratios", none)) ["_law_bag_here"] (liftSp K (Cs K) sRatios) := by
  obtain ⟨oc, od, dV, kV, doc, pm, an, cdv', ct, osl, hfd, lkT, hcT, _, _⟩ := (F__law_ask T).ex
  have bT := B__law_ask T
  rw [hfd] at bT lkT
  obtain ⟨hmT, huT⟩ := tab_only T "_law_ratios" (by simp)
  refine v_okL (p := ("_law_ratios", none)) (F__law_ratios T) sc__law_ratios (by decide) (by decide) ?_ (fun A outer s H W ds n Q' hC hE hr h => ⟨_, (vss_cons (vs_asg (ps_asg (ve_tup (va_cons (ve_call hC hE (pe_call (v__law_drawn_ratio T) (hr.mono (by decide)) (by rfl) (T.glo "_law_drawn_ratio" rfl) (F__law_drawn_ratio T).kp (B__law_drawn_ratio T) .nil (passes_call (takes_of rfl rfl rfl rfl) (fun _ _ _ _ h => h)) (va_cons (ve_var (pv 0)) va_nil)) (fun _ _ _ => .nil)) (va_cons (ve_call hC hE (pe_call (v__law_drawn_ratio T) (hr.mono (by decide)) (by rfl) (T.glo "_law_drawn_ratio" rfl) (F__law_drawn_ratio T).kp (B__law_drawn_ratio T) .nil (passes_call (takes_of rfl rfl rfl rfl) (fun _ _ _ _ h => h)) (va_cons (ve_var (pv 0)) va_nil)) (fun _ _ _ => .nil)) va_nil))) (vg_tup (m := 2) rfl rfl (vgs_cons (vg_name (pg_name (i := 1) sc__law_ratios.nd rfl (Or.inr rfl))) (vgs_cons (vg_name (pg_name (i := 2) sc__law_ratios.nd rfl (Or.inl rfl))) vgs_nil)))))
  (vss_cons (vs_set (ps_set (i := 3) sc__law_ratios.nd rfl (Or.inr rfl) (ve_call hC hE (pe_call (v__law_of T) (hr.mono (by decide)) (by rfl) (T.glo "_law_of" rfl) (F__law_of T).kp (B__law_of T) .nil (passes_call (takes_of rfl rfl rfl rfl) (fun _ _ _ _ h => h)) (va_cons (ve_var (pv 0)) (va_cons (ve_lst (va_cons (ve_int pe_int) (va_cons (ve_int pe_int) (va_cons (ve_op op_sub d_I0 (ve_int pe_int) (ve_int pe_int)) (va_cons (ve_int pe_int) (va_cons (ve_op op_sub d_I0 (ve_int pe_int) (ve_int pe_int)) (va_cons (ve_op op_sub d_I0 (ve_call hC hE (pe_call (v__law_draw T) (hr.mono (by decide)) (by rfl) (T.glo "_law_draw" rfl) (F__law_draw T).kp (B__law_draw T) .nil pass0 (va_cons (ve_var (pv 0)) (va_cons (ve_int pe_int) va_nil))) (fun _ _ _ => .nil)) (ve_int pe_int)) (va_cons (ve_op op_sub d_I0 (ve_call hC hE (pe_call (v__law_draw T) (hr.mono (by decide)) (by rfl) (T.glo "_law_draw" rfl) (F__law_draw T).kp (B__law_draw T) .nil pass0 (va_cons (ve_var (pv 0)) (va_cons (ve_int pe_int) va_nil))) (fun _ _ _ => .nil)) (ve_int pe_int)) va_nil)))))))) va_nil))) (fun _ _ _ => .nil))))
  (vss_cons (vs_set (ps_set (i := 3) sc__law_ratios.nd rfl (Or.inr rfl) (ve_if (vt_cmp op_lt d_IB (ve_op (op_addD K) d_add (ve_cb (pe_callB (call_lenK K) (by rfl) (T.free "len" rfl) boot_len (va_cons (ve_cb (pe_callTy (call_strD (m_35 T) hr) (by rfl) (T.free "str" rfl) boot_str (va_cons (ve_fld (pe_fldK K (ve_ix (ix_LTK K) d_ix (ve_var (pv 1)) (ve_int pe_int) (fun _ _ => rfl)))) va_nil)) d_strD) va_nil)) d_len) (ve_cb (pe_callB (call_lenK K) (by rfl) (T.free "len" rfl) boot_len (va_cons (ve_cb (pe_callTy (call_strD (m_35 T) hr) (by rfl) (T.free "str" rfl) boot_str (va_cons (ve_fld (pe_fldK K (ve_ix (ix_LTK K) d_ix (ve_var (pv 1)) (ve_int pe_int) (fun _ _ => rfl)))) va_nil)) d_strD) va_nil)) d_len)) (ve_int pe_int) (nomark _)) (ve_call hC hE (pe_call (v__law_of T) (hr.mono (by decide)) (by rfl) (T.glo "_law_of" rfl) (F__law_of T).kp (B__law_of T) .nil (passes_call (takes_of rfl rfl rfl rfl) (fun _ _ _ _ h => h)) (va_cons (ve_var (pv 0)) (va_cons (ve_lst (va_cons (ve_int pe_int) (va_cons (ve_op op_sub d_I0 (ve_int pe_int) (ve_int pe_int)) (va_cons (ve_var (pv 3)) va_nil)))) va_nil))) (fun _ _ _ => .nil)) (ve_var (pv 3)))))
  (vss_cons (vs_for (passes_of rfl) rfl (vi_list rfl (ve_lst (va_cons (ve_var (pv 1)) (va_cons (ve_var (pv 2)) (va_cons (ve_var (pv 1)) va_nil))))) (vg_tup (m := 2) rfl rfl (vgs_cons (vg_name (pg_name (i := 4) sc__law_ratios.nd rfl (Or.inl rfl))) (vgs_cons (vg_name (pg_name (i := 5) sc__law_ratios.nd rfl (Or.inr rfl))) vgs_nil))) (vss_one (vs_if (vt_not (vt_val (ve_call hC hE (pe_call (v__law_ratio_so T hTB) (hr.mono (by decide)) (by rfl) (T.glo "_law_ratio_so" rfl) (F__law_ratio_so T).kp (B__law_ratio_so T) .nil (passes_call (takes_of rfl rfl rfl rfl) (fun _ _ _ _ h => h)) (va_cons (ve_var (pv 0)) (va_cons (ve_var (pv 4)) (va_cons (ve_var (pv 5)) va_nil)))) (fun _ _ _ => .nil)))) (vss_one (vs_ret (ps_ret (ve_bl pe_bl)))) vss_nil)))
  (vss_cons (vs_if (vt_not (vt_val (ve_call hC hE (pe_call (v__law_ratio_so T hTB) (hr.mono (by decide)) (by rfl) (T.glo "_law_ratio_so" rfl) (F__law_ratio_so T).kp (B__law_ratio_so T) .nil (passes_call (takes_of rfl rfl rfl rfl) (fun _ _ _ _ h => h)) (va_cons (ve_var (pv 0)) (va_cons (ve_own2 (cl := "Ratio") hC hE (pe_op (BF.op_ownB (op := .Mult) (v_Ratio___mul__ T) (hr.mono (by decide)) (m_4 T) (of_decide_eq_true (m_10 T)) (m_11 T) (B_Ratio___mul__ T) (passes_call (takes_of rfl rfl rfl rfl) (fun _ _ _ _ h => h))) (ve_ix (ix_LTK K) d_ix (ve_var (pv 1)) (ve_int pe_int) (fun _ _ => rfl)) (ve_ix (ix_LTK K) d_ix (ve_var (pv 2)) (ve_int pe_int) (fun _ _ => rfl)))) (va_cons (ve_call hC hE (pe_call (v__law_sum T) (hr.mono (by decide)) (by rfl) (T.glo "_law_sum" rfl) (F__law_sum T).kp (B__law_sum T) .nil (passes_call (takes_of rfl rfl rfl rfl) (fun _ _ _ _ h => h)) (va_cons (ve_ix (ix_LTK K) d_ix (ve_var (pv 1)) (ve_int pe_int) (fun _ _ => rfl)) (va_cons (ve_ix (ix_LTK K) d_ix (ve_var (pv 2)) (ve_int pe_int) (fun _ _ => rfl)) va_nil))) (fun _ _ _ => .nil)) va_nil)))) (fun _ _ _ => .nil)))) (vss_one (vs_ret (ps_ret (ve_bl pe_bl)))) vss_nil)
  (vss_cons (vs_if (vt_not (vt_val (ve_call hC hE (pe_call (v__law_like T 4) (hr.mono (by decide)) (by rfl) (T.glo "_law_like" rfl) (F__law_like T).kp (B__law_like T) .nil (passes_call (takes_of rfl rfl rfl rfl) (fun _ _ _ _ h => h)) (va_cons (ve_lst (va_cons (ve_own2 (cl := "Ratio") hC hE (pe_cmpR (BF.op_ownEq (v_Ratio___eq__ T) (hr.mono (by decide)) (of_decide_eq_true (m_8 T)) (m_9 T) (B_Ratio___eq__ T) (passes_call (takes_of rfl rfl rfl rfl) (fun _ _ _ _ h => h))) (ve_ix (ix_LTK K) d_ix (ve_var (pv 1)) (ve_int pe_int) (fun _ _ => rfl)) (ve_ix (ix_LTK K) d_ix (ve_var (pv 2)) (ve_int pe_int) (fun _ _ => rfl)) (nomark _))) (va_cons (ve_own2 (cl := "Ratio") hC hE (pe_cmpR (BF.op_ownEq (v_Ratio___eq__ T) (hr.mono (by decide)) (of_decide_eq_true (m_8 T)) (m_9 T) (B_Ratio___eq__ T) (passes_call (takes_of rfl rfl rfl rfl) (fun _ _ _ _ h => h))) (ve_ix (ix_LTK K) d_ix (ve_var (pv 2)) (ve_int pe_int) (fun _ _ => rfl)) (ve_ix (ix_LTK K) d_ix (ve_var (pv 1)) (ve_int pe_int) (fun _ _ => rfl)) (nomark _))) (va_cons (ve_own2 (cl := "Ratio") hC hE (pe_cmpR (BF.op_ownEq (v_Ratio___eq__ T) (hr.mono (by decide)) (of_decide_eq_true (m_8 T)) (m_9 T) (B_Ratio___eq__ T) (passes_call (takes_of rfl rfl rfl rfl) (fun _ _ _ _ h => h))) (ve_ix (ix_LTK K) d_ix (ve_var (pv 1)) (ve_int pe_int) (fun _ _ => rfl)) (ve_ix (ix_LTK K) d_ix (ve_var (pv 1)) (ve_int pe_int) (fun _ _ => rfl)) (nomark _))) va_nil)))) (va_cons (ve_lst (va_cons (ve_cmp (op_eqU K hr.units) d_eq (ve_ix (ix_LTK K) d_ix (ve_var (pv 1)) (ve_int pe_int) (fun _ _ => rfl)) (ve_ix (ix_LTK K) d_ix (ve_var (pv 2)) (ve_int pe_int) (fun _ _ => rfl)) (nomark _)) (va_cons (ve_cmp (op_eqU K hr.units) d_eq (ve_ix (ix_LTK K) d_ix (ve_var (pv 1)) (ve_int pe_int) (fun _ _ => rfl)) (ve_ix (ix_LTK K) d_ix (ve_var (pv 2)) (ve_int pe_int) (fun _ _ => rfl)) (nomark _)) (va_cons (ve_bl pe_bl) va_nil)))) va_nil))) (fun _ _ _ => .nil)))) (vss_one (vs_ret (ps_ret (ve_bl pe_bl)))) vss_nil)
  (vss_cons (vs_if (vt_not (vt_val (ve_call hC hE (pe_call (v__law_like T 4) (hr.mono (by decide)) (by rfl) (T.glo "_law_like" rfl) (F__law_like T).kp (B__law_like T) .nil (passes_call (takes_of rfl rfl rfl rfl) (fun _ _ _ _ h => h)) (va_cons (ve_lst (va_cons (ve_ownX (cl := "Ratio") hC hE (pe_cmpR (op_ownEqX (v_Ratio___eq__ T) (hr.mono (by decide)) (of_decide_eq_true (m_8 T)) (m_9 T) (m_40 T) (m_41 T) (m_42 T) (B_Ratio___eq__ T) (passes_call (takes_of rfl rfl rfl rfl) (fun _ _ _ _ h => h))) (ve_ix (ix_LTK K) d_ix (ve_var (pv 1)) (ve_int pe_int) (fun _ _ => rfl)) (ve_fld (pe_fldK K (ve_ix (ix_LTK K) d_ix (ve_var (pv 1)) (ve_int pe_int) (fun _ _ => rfl)))) (nomark _))) (va_cons (ve_ownX (cl := "Ratio") hC hE (pe_cmpR (op_ownEqX (v_Ratio___eq__ T) (hr.mono (by decide)) (of_decide_eq_true (m_8 T)) (m_9 T) (m_40 T) (m_41 T) (m_42 T) (B_Ratio___eq__ T) (passes_call (takes_of rfl rfl rfl rfl) (fun _ _ _ _ h => h))) (ve_ix (ix_LTK K) d_ix (ve_var (pv 1)) (ve_int pe_int) (fun _ _ => rfl)) (ve_strO (cl := "Ratio") hC hE (pe_callTy (call_strOwn (v_Ratio___str__ T) (hr.mono (by decide)) (of_decide_eq_true (m_16 T)) (m_17 T) (B_Ratio___str__ T) (passes_call (takes_of rfl rfl rfl rfl) (fun _ _ _ _ h => h))) (by rfl) (T.free "str" rfl) boot_str (va_cons (ve_ix (ix_LTK K) d_ix (ve_var (pv 1)) (ve_int pe_int) (fun _ _ => rfl)) va_nil))) (nomark _))) (va_cons (ve_ownX (cl := "Ratio") hC hE (pe_cmpR (op_ownEqX (v_Ratio___eq__ T) (hr.mono (by decide)) (of_decide_eq_true (m_8 T)) (m_9 T) (m_40 T) (m_41 T) (m_42 T) (B_Ratio___eq__ T) (passes_call (takes_of rfl rfl rfl rfl) (fun _ _ _ _ h => h))) (ve_ix (ix_LTK K) d_ix (ve_var (pv 1)) (ve_int pe_int) (fun _ _ => rfl)) (ve_tup (va_cons (ve_fld (pe_fldK K (ve_ix (ix_LTK K) d_ix (ve_var (pv 1)) (ve_int pe_int) (fun _ _ => rfl)))) (va_cons (ve_fld (pe_fldK K (ve_ix (ix_LTK K) d_ix (ve_var (pv 1)) (ve_int pe_int) (fun _ _ => rfl)))) va_nil))) (nomark _))) va_nil)))) (va_cons (ve_op op_rep d_repL (ve_lst (va_cons (ve_bl pe_bl) va_nil)) (ve_int pe_int)) va_nil))) (fun _ _ _ => .nil)))) (vss_one (vs_ret (ps_ret (ve_bl pe_bl)))) vss_nil)
  (vss_cons (vs_set (ps_set (i := 6) sc__law_ratios.nd rfl (Or.inl rfl) (ve_lst (va_cons (ve_str pe_str) (va_cons (ve_str pe_str) (va_cons (ve_int pe_int) va_nil))))))
  (vss_cons (vs_if (vt_cmp op_isNX d_is (ve_ix (ix_LTK K) d_ix (ve_var (pv 1)) (ve_int pe_int) (fun _ _ => rfl)) (ve_non pe_non) (nomark _)) (vss_cons (vs_set (ps_set (i := 7) sc__law_ratios.nd rfl (Or.inr rfl) (ve_cb (pe_callB (call_max2 rfl) (by rfl) (T.free "max" rfl) boot_max (va_cons (ve_int pe_int) (va_cons (ve_cb (pe_callB call_absX (by rfl) (T.free "abs" rfl) boot_abs (va_cons (ve_var (pv 3)) va_nil)) d_abs) va_nil))) d_max2)))
  (vss_cons (vs_set (ps_set (i := 8) sc__law_ratios.nd rfl (Or.inl rfl) (ve_lst (va_cons (ve_ask hC (LamX.pe_lamcall (k := 8) (T := tabs K) (by rfl) (T.glo "_law_ask" rfl) (F__law_ask T).kp lkT hcT bT sc__law_ask rfl (Or.inl rfl) (ask_gives T (hr.mono (by decide))) (hTB _ (by decide)) rfl hmT huT (hr.mono (by decide)) (LamX.lamS_by (sc := defScope s__law_ratios) (by decide +kernel)) rfl (fun _ _ _ _ _ => rfl) (fun A outer s H E f c' hr => ve_lambody2 fun W E1 hC hE => (ve_own1 (cl := "Ratio") hC hE (pe_un (BF.un_ownInv (v_Ratio___invert__ T) (hr.mono (by decide)) (of_decide_eq_true (m_12 T)) (m_13 T) (B_Ratio___invert__ T) (passes_call (takes_of rfl rfl rfl rfl) (fun _ _ _ _ h => h))) (ve_ix (ix_LTK K) d_ix (ve_var (pv 1)) (ve_int pe_int) (fun _ _ => rfl))))))) (va_cons (ve_ask hC (LamD.pe_lamcallD (k := 8) (T := tabs K) (by rfl) (T.glo "_law_ask" rfl) (F__law_ask T).kp lkT hcT bT sc__law_ask rfl (Or.inl rfl) (ask_gives T (hr.mono (by decide))) (hTB _ (by decide)) rfl hmT huT (hr.mono (by decide)) (LamD.lamS1_by (sc := defScope s__law_ratios) (by decide +kernel)) rfl pe_int (fun _ _ _ _ _ _ => ⟨_, rfl, fun _ => rfl⟩) (fun A outer s H E f c' hr => ve_lambody2 fun W E1 hC hE => (ve_meth (cl := "Ratio") (m := "raised") hC hE (pe_meth (ve_ix (ix_LTK K) d_ix (ve_var (pv 1)) (ve_int pe_int) (fun _ _ => rfl)) (T.cls "Ratio" rfl) (T.meth "Ratio" "raised" rfl) (v_Ratio_raised T) (hr.mono (by decide)) (B_Ratio_raised T) .nil (passes_call (takes_of rfl rfl rfl rfl) (fun _ _ _ _ h => h)) (va_cons (ve_op op_sub d_I0 (ve_int pe_int) (ve_var (pv 7))) va_nil)) (fun _ _ _ => .nil))))) va_nil)))))
  (vss_cons (vs_if (PW.pt (vw_or (vt_not (vt_val (ve_call hC hE (pe_call (v__law_like T 4) (hr.mono (by decide)) (by rfl) (T.glo "_law_like" rfl) (F__law_like T).kp (B__law_like T) .nil (passes_call (takes_of rfl rfl rfl rfl) (fun _ _ _ _ h => h)) (va_cons (ve_var (pv 8)) (va_cons (ve_op op_rep d_repL (ve_lst (va_cons (ve_var (pv 6)) va_nil)) (ve_int pe_int)) va_nil))) (fun _ _ _ => .nil)))) (vw_or1 (vt_not (vt_val (ve_call hC hE (pe_call (v__law_ratio_so T hTB) (hr.mono (by decide)) (by rfl) (T.glo "_law_ratio_so" rfl) (F__law_ratio_so T).kp (B__law_ratio_so T) .nil (passes_call (takes_of rfl rfl rfl rfl) (fun _ _ _ _ h => h)) (va_cons (ve_var (pv 0)) (va_cons (ve_ownI (cl := "Ratio") hC hE (pe_op (op_ownPow (v_Ratio___pow__ T) (hr.mono (by decide)) (m_4 T) (of_decide_eq_true (m_14 T)) (m_15 T) (of_decide_eq_true (m_36 T)) (m_37 T) (m_38 T) (of_decide_eq_true (m_39 T)) (B_Ratio___pow__ T) (passes_call (takes_of rfl rfl rfl rfl) (fun _ _ _ _ h => h))) (ve_ix (ix_LTK K) d_ix (ve_var (pv 1)) (ve_int pe_int) (fun _ _ => rfl)) (ve_int pe_int))) (va_cons (ve_op op_rep d_repL (ve_lst (va_cons (ve_int pe_int) va_nil)) (ve_int pe_int)) va_nil)))) (fun _ _ _ => .nil))))))) (vss_one (vs_ret (ps_ret (ve_bl pe_bl)))) vss_nil)
  (vss_one (vs_ret (ps_ret (ve_and (ve_call hC hE (pe_call (v__law_ratio_so T hTB) (hr.mono (by decide)) (by rfl) (T.glo "_law_ratio_so" rfl) (F__law_ratio_so T).kp (B__law_ratio_so T) .nil (passes_call (takes_of rfl rfl rfl rfl) (fun _ _ _ _ h => h)) (va_cons (ve_var (pv 0)) (va_cons (ve_meth (cl := "Ratio") (m := "raised") hC hE (pe_meth (ve_ix (ix_LTK K) d_ix (ve_var (pv 1)) (ve_int pe_int) (fun _ _ => rfl)) (T.cls "Ratio" rfl) (T.meth "Ratio" "raised" rfl) (v_Ratio_raised T) (hr.mono (by decide)) (B_Ratio_raised T) .nil (passes_call (takes_of rfl rfl rfl rfl) (fun _ _ _ _ h => h)) (va_cons (ve_var (pv 7)) va_nil)) (fun _ _ _ => .nil)) (va_cons (ve_non pe_non) va_nil)))) (fun _ _ _ => .nil)) (pe_one (ve_call hC hE (pe_call (v__law_ratio_so T hTB) (hr.mono (by decide)) (by rfl) (T.glo "_law_ratio_so" rfl) (F__law_ratio_so T).kp (B__law_ratio_so T) .nil (passes_call (takes_of rfl rfl rfl rfl) (fun _ _ _ _ h => h)) (va_cons (ve_var (pv 0)) (va_cons (ve_meth (cl := "Ratio") (m := "raised") hC hE (pe_meth (ve_ix (ix_LTK K) d_ix (ve_var (pv 1)) (ve_int pe_int) (fun _ _ => rfl)) (T.cls "Ratio" rfl) (T.meth "Ratio" "raised" rfl) (v_Ratio_raised T) (hr.mono (by decide)) (B_Ratio_raised T) .nil (passes_call (takes_of rfl rfl rfl rfl) (fun _ _ _ _ h => h)) (va_cons (ve_int pe_int) va_nil)) (fun _ _ _ => .nil)) (va_cons (ve_op op_rep d_repL (ve_lst (va_cons (ve_int pe_int) va_nil)) (ve_int pe_int)) va_nil)))) (fun _ _ _ => .nil)))))))))) vss_nil)
  (vss_cons (vs_if (vt_not (vt_val (ve_call hC hE (pe_call (v__law_ratio_so T hTB) (hr.mono (by decide)) (by rfl) (T.glo "_law_ratio_so" rfl) (F__law_ratio_so T).kp (B__law_ratio_so T) .nil (passes_call (takes_of rfl rfl rfl rfl) (fun _ _ _ _ h => h)) (va_cons (ve_var (pv 0)) (va_cons (ve_own1 (cl := "Ratio") hC hE (pe_un (BF.un_ownInv (v_Ratio___invert__ T) (hr.mono (by decide)) (of_decide_eq_true (m_12 T)) (m_13 T) (B_Ratio___invert__ T) (passes_call (takes_of rfl rfl rfl rfl) (fun _ _ _ _ h => h))) (ve_ix (ix_LTK K) d_ix (ve_var (pv 1)) (ve_int pe_int) (fun _ _ => rfl)))) (va_cons (ve_ofO (vo_lc (pe_lc (own := [("_law_a", 9)]) rfl sc__law_ratios.nd (vi_list rfl (ve_ix (ix_LTK K) d_ix (ve_var (pv 1)) (ve_int pe_int) (fun _ _ => rfl))) (blkOk_by (N := ["_law_bag_here", "_law_one", "_law_two", "_law_k", "_law_ratio", "_law_powers", "_law_refused", "_law_above", "_law_asks", "_law_a", "_law_j"]) (sc := defScope s__law_ratios) (by decide +kernel)) (fun _ _ _ _ _ => (vg_name (pg_name (i := 9) sc__law_ratios.nd rfl (Or.inl rfl)))) (fun _ _ _ _ _ => vts_nil) (fun _ _ _ _ _ => (ve_op op_sub d_I0 (ve_int pe_int) (ve_var (pv 9))))))) va_nil)))) (fun _ _ _ => .nil)))) (vss_one (vs_ret (ps_ret (ve_bl pe_bl)))) vss_nil)
  (vss_cons (vs_if (vt_not (vt_val (ve_call hC hE (pe_call (v__law_ratio_so T hTB) (hr.mono (by decide)) (by rfl) (T.glo "_law_ratio_so" rfl) (F__law_ratio_so T).kp (B__law_ratio_so T) .nil (passes_call (takes_of rfl rfl rfl rfl) (fun _ _ _ _ h => h)) (va_cons (ve_var (pv 0)) (va_cons (ve_meth (cl := "Ratio") (m := "raised") hC hE (pe_meth (ve_ix (ix_LTK K) d_ix (ve_var (pv 1)) (ve_int pe_int) (fun _ _ => rfl)) (T.cls "Ratio" rfl) (T.meth "Ratio" "raised" rfl) (v_Ratio_raised T) (hr.mono (by decide)) (B_Ratio_raised T) .nil (passes_call (takes_of rfl rfl rfl rfl) (fun _ _ _ _ h => h)) (va_cons (ve_var (pv 3)) va_nil)) (fun _ _ _ => .nil)) (va_cons (ve_ofO (vo_lc (pe_lc (own := [("_law_a", 9)]) rfl sc__law_ratios.nd (vi_list rfl (ve_ix (ix_LTK K) d_ix (ve_var (pv 1)) (ve_int pe_int) (fun _ _ => rfl))) (blkOk_by (N := ["_law_bag_here", "_law_one", "_law_two", "_law_k", "_law_ratio", "_law_powers", "_law_refused", "_law_above", "_law_asks", "_law_a", "_law_j"]) (sc := defScope s__law_ratios) (by decide +kernel)) (fun _ _ _ _ _ => (vg_name (pg_name (i := 9) sc__law_ratios.nd rfl (Or.inl rfl)))) (fun _ _ _ _ _ => vts_nil) (fun _ _ _ _ _ => (ve_op op_mulW d_I (ve_var (pv 9)) (ve_var (pv 3))))))) va_nil)))) (fun _ _ _ => .nil)))) (vss_one (vs_ret (ps_ret (ve_bl pe_bl)))) vss_nil)
  (vss_cons (vs_set (ps_set (i := 5) sc__law_ratios.nd rfl (Or.inr rfl) (ve_lst (va_cons (ve_ownI (cl := "Ratio") hC hE (pe_op (op_ownPow (v_Ratio___pow__ T) (hr.mono (by decide)) (m_4 T) (of_decide_eq_true (m_14 T)) (m_15 T) (of_decide_eq_true (m_36 T)) (m_37 T) (m_38 T) (of_decide_eq_true (m_39 T)) (B_Ratio___pow__ T) (passes_call (takes_of rfl rfl rfl rfl) (fun _ _ _ _ h => h))) (ve_ix (ix_LTK K) d_ix (ve_var (pv 1)) (ve_int pe_int) (fun _ _ => rfl)) (ve_int pe_int))) (va_cons (ve_ownI (cl := "Ratio") hC hE (pe_op (op_ownPow (v_Ratio___pow__ T) (hr.mono (by decide)) (m_4 T) (of_decide_eq_true (m_14 T)) (m_15 T) (of_decide_eq_true (m_36 T)) (m_37 T) (m_38 T) (of_decide_eq_true (m_39 T)) (B_Ratio___pow__ T) (passes_call (takes_of rfl rfl rfl rfl) (fun _ _ _ _ h => h))) (ve_ix (ix_LTK K) d_ix (ve_var (pv 1)) (ve_int pe_int) (fun _ _ => rfl)) (ve_int pe_int))) (va_cons (ve_ownI (cl := "Ratio") hC hE (pe_op (op_ownPow (v_Ratio___pow__ T) (hr.mono (by decide)) (m_4 T) (of_decide_eq_true (m_14 T)) (m_15 T) (of_decide_eq_true (m_36 T)) (m_37 T) (m_38 T) (of_decide_eq_true (m_39 T)) (B_Ratio___pow__ T) (passes_call (takes_of rfl rfl rfl rfl) (fun _ _ _ _ h => h))) (ve_ix (ix_LTK K) d_ix (ve_var (pv 1)) (ve_int pe_int) (fun _ _ => rfl)) (ve_int pe_int))) va_nil))))))
  (vss_one (vs_ret (ps_ret (ve_cb (pe_callB (cr_allK K) (by rfl) (T.free "all" rfl) boot_all (va_cons (ve_ofO (vo_lc (pe_lc (own := [("_law_j", 10)]) rfl sc__law_ratios.nd (vi_rng1 (pi_range1 (by rfl) (T.free "range" rfl) (va_cons (ve_int pe_int) va_nil))) (blkOk_by (N := ["_law_bag_here", "_law_one", "_law_two", "_law_k", "_law_ratio", "_law_powers", "_law_refused", "_law_above", "_law_asks", "_law_a", "_law_j"]) (sc := defScope s__law_ratios) (by decide +kernel)) (fun _ _ _ _ _ => (vg_name (pg_name (i := 10) sc__law_ratios.nd rfl (Or.inr rfl)))) (fun _ _ _ _ _ => vts_nil) (fun _ _ _ _ _ => (ve_call hC elink0 (pe_call (v__law_ratio_so T hTB) (hr.mono (by decide)) (by rfl) (T.glo "_law_ratio_so" rfl) (F__law_ratio_so T).kp (B__law_ratio_so T) .nil passL (va_cons (ve_var (pv 0)) (va_cons (ve_ix (ix_LTK K) d_ix (ve_var (pv 5)) (ve_var (pv 10)) (fun _ _ => rfl)) (va_cons (ve_ofO (vo_lc (pe_lc (own := [("_law_a", 9)]) rfl sc__law_ratios.nd (vi_list rfl (ve_ix (ix_LTK K) d_ix (ve_var (pv 1)) (ve_int pe_int) (fun _ _ => rfl))) (blkOk_by (N := ["_law_bag_here", "_law_one", "_law_two", "_law_k", "_law_ratio", "_law_powers", "_law_refused", "_law_above", "_law_asks", "_law_a", "_law_j"]) (by kernel_rfl)) (fun _ _ _ _ _ => (vg_name (pg_name (i := 9) sc__law_ratios.nd rfl (Or.inl rfl)))) (fun _ _ _ _ _ => vts_nil) (fun _ _ _ _ _ => (ve_op op_mulW d_I (ve_var (pv 9)) (ve_ix (ix_LTK K) d_ix (ve_lst (va_cons (ve_int pe_int) (va_cons (ve_int pe_int) (va_cons (ve_int pe_int) va_nil)))) (ve_var (pv 10)) (fun _ _ => rfl))))))) va_nil)))) (fun _ _ _ => .nil)))))) va_nil)) d_all)))))))))))))))), ?_⟩)
  · rintro ds n Q E ⟨rfl, _⟩; rfl
  · obtain ⟨rfl, hn, hq⟩ := h
    have a1 := aT T
    have a2 := aB T
    walk_at "vin"
    walk_at "vy"
    refine y_drawn (by omega) fun t b p n1 hD hn1 => ?_
    walk_at "vy"
    refine y_drawn (by omega) fun t' b' p' n2 hD' hn2 => ?_
    unfold rD
    walk_at "vy"
    refine y_draw (by omega) (by decide) (by decide) fun z1 z10 z11 => ?_
    walk_at "vy"
    refine y_draw (by omega) (by decide) (by decide) fun z2 z20 z21 => ?_
    walk_at "vy"
    refine y_of (by omega) (by simp) (by simp) fun j kd hj => ?_
    obtain ⟨k0, rfl, hk0⟩ : ∃ k : Int, kd = .int k ∧ k.natAbs ≤ 12 := by
      have hm := List.mem_of_getElem? hj
      simp only [List.mem_cons, List.not_mem_nil, or_false] at hm
      rcases hm with rfl | rfl | rfl | rfl | rfl | rfl | rfl
      all_goals exact ⟨_, rfl, by omega⟩
    walk_at "vn"
    have r0 := hD.rat
    have r0' := hD'.rat
    have nt : (t : Int).natAbs < 10 ^ 4300 := by rw [Int.natAbs_natCast]; exact r0.1
    have nb : (b : Int).natAbs < 10 ^ 4300 := by rw [Int.natAbs_natCast]; exact r0.2.1
    have lt := tN_len r0.1
    have lb := tN_len r0.2.1
    with_reducible refine y_cut (fun τ n' => n' ≤ n2 + 4 ∧ ∃ k, KB t b k ∧ τ = [some (.d .bag), some (.d (.tup [.ins "Ratio" ["top", "bottom"] [.int t, .int b], pD p])), some (.d (.tup [.ins "Ratio" ["top", "bottom"] [.int t', .int b'], pD p'])), some (.d (.int k)), none, none, none, none, none, none, none]) ?_ ?_
    rotate_left
    · intro R hR
      walk_at "vy"
      refine VF.y_strD nt ?_
      walk_at "vy"
      refine VF.y_lenS (x := tN t) (by omega) ?_
      walk_at "vy"
      refine VF.y_strD nb ?_
      walk_at "vy"
      refine VF.y_lenS (x := tN b) (by omega) ?_
      walk_at "vy"
      refine BF.x_ite (fun hl => ?_) (fun hl => ?_)
      · walk_at "vy"
        refine y_of (by omega) (by simp) (by simp) fun j kd hj => ?_
        obtain ⟨k, rfl, hk⟩ : ∃ k : Int, kd = .int k ∧ k.natAbs ≤ 99 := by
          have hm := List.mem_of_getElem? hj
          simp only [List.mem_cons, List.not_mem_nil, or_false] at hm
          rcases hm with rfl | rfl | rfl
          · exact ⟨_, rfl, by decide⟩
          · exact ⟨_, rfl, by decide⟩
          · exact ⟨_, rfl, by omega⟩
        walk_at "vy"
        exact hR _ _ ⟨by omega, k, .inr ⟨tN_digits (by omega), tN_digits (by omega), hk⟩, rfl⟩
      · walk_at "vy"
        exact hR _ _ ⟨by omega, k0, kb_small hD hk0, rfl⟩
    rintro τ n3 ⟨hn3, k, hk, rfl⟩
    walk_at "vy"
    refine VF.y_loop (fun i τ n' => n' ≤ n3 + 2 * i ∧ ∃ o4 o5, τ = [some (.d .bag), some (.d (.tup [.ins "Ratio" ["top", "bottom"] [.int t, .int b], pD p])), some (.d (.tup [.ins "Ratio" ["top", "bottom"] [.int t', .int b'], pD p'])), some (.d (.int k)), o4, o5, none, none, none, none, none]) ⟨by omega, none, none, rfl⟩ ?_ ?_
    · rintro i d τ n' hd ⟨hn', o4, o5, rfl⟩
      have hi : i < 3 := (List.getElem?_eq_some_iff.mp hd).1
      obtain ⟨T1, B1, p1, rfl, hr1⟩ : ∃ T1 B1 p1, d = .tup [.ins "Ratio" ["top", "bottom"] [.int (T1 : Nat), .int (B1 : Nat)], pD p1] ∧ RatOk T1 B1 p1 := by
        have hm := List.mem_of_getElem? hd
        simp only [List.mem_cons, List.not_mem_nil, or_false] at hm
        rcases hm with rfl | rfl | rfl
        · exact ⟨t, b, p, rfl, r0⟩
        · exact ⟨t', b', p', rfl, r0'⟩
        · exact ⟨t, b, p, rfl, r0⟩
      walk_at "vy"
      refine y_ratioSo (t := T1) (b := B1) (p := p1) (by omega) hr1 fun n'' hn'' => ?_
      walk_at "vy"
      exact ⟨by omega, _, _, rfl⟩
    rintro τ n4 ⟨hn4, o4, o5, rfl⟩
    have hn4 : n4 ≤ n3 + 6 := hn4
    obtain ⟨g, U, V, e1, e2, g0, g1, V0, hc, hr2⟩ := hD.mul hD'
    have l100 : ∀ {x : Nat}, x ≤ 10 ^ 40 → x < 2 ^ 100000 := fun h => Nat.lt_of_le_of_lt h (Nat.lt_of_lt_of_le (show (10 : Nat) ^ 40 < 2 ^ 133 by decide) (Nat.pow_le_pow_right (by decide) (by decide)))
    walk_at "vy"
    refine ⟨_, _, _, _, rfl, rfl, t, b, t', b', g, U, V, rfl, l100 hD.2.2.1, l100 hD.2.2.2.1, l100 hD'.2.2.1, l100 hD'.2.2.2.1, e1, e2, g0, g1, V0, hc, ?_⟩
    walk_at "vy"
    refine y_sum (len10 hD) (len10 hD') ?_
    walk_at "vy"
    refine y_ratioSo (t := U) (b := V) (p := adO p p') (by omega) hr2 fun n5 hn5 => ?_
    walk_at "vy"
    refine ⟨_, _, _, _, rfl, rfl, t, b, _, rfl, .inl ⟨t', b', rfl, ?_⟩⟩
    walk_at "vy"
    refine ⟨_, _, _, _, rfl, rfl, t', b', _, rfl, .inl ⟨t, b, rfl, ?_⟩⟩
    walk_at "vy"
    refine ⟨_, _, _, _, rfl, rfl, t, b, _, rfl, .inl ⟨t, b, rfl, ?_⟩⟩
    rw [drawn_eq hD hD', drawn_eq hD' hD, drawn_eq hD hD, show decide (p' = p) = decide (p = p') from decide_eq_decide.mpr eq_comm, show decide (p = p) = true from decide_eq_true rfl]
    walk_at "vy"
    refine y_eqP ?_
    walk_at "vy"
    refine y_eqP ?_
    walk_at "vy"
    refine y_like (.lst (pz_c .bl (pz_c .bl (pz_one .bl))) (by simp)) ?_
    walk_at "vy"
    refine ⟨_, _, rfl, .inl ⟨_, rfl⟩, t, b, _, rfl, .inr ⟨.inl ⟨_, rfl⟩, ?_⟩⟩
    walk_at "vy"
    refine ⟨_, _, rfl, t, b, rfl, r0.1, r0.2.1, _, rfl, _, _, rfl, .inr (.inl ⟨_, rfl⟩), t, b, _, rfl, .inr ⟨.inr (.inl ⟨_, rfl⟩), ?_⟩⟩
    walk_at "vy"
    refine ⟨_, _, rfl, .inr (.inr ⟨_, rfl⟩), t, b, _, rfl, .inr ⟨.inr (.inr ⟨_, rfl⟩), ?_⟩⟩
    walk_at "vy"
    refine VF.y_repL (by decide) (by decide) (by decide) ?_
    rw [show (List.replicate (Int.toNat 3) [VF.DV.bl false]).flatten = [.bl false, .bl false, .bl false] from rfl]
    walk_at "vy"
    refine y_like (.lst (pz_c .bl (pz_c .bl (pz_one .bl))) (by simp)) ?_
    walk_at "vy"
    have pz0 : Pz 2 (.lst [.str "InvalidNumber", .str "InvalidNumber", .int 0]) := .lst (pz_c (.str (by decide +kernel)) (pz_c (.str (by decide +kernel)) (pz_one .int))) (by simp)
    cases p with
    | none =>
      obtain ⟨rfl, rfl⟩ := hD.2.2.2.2
      have k99 := hk.lt.2.2
      unfold pD
      walk_at "vy"
      refine y_ask2 (r := .num (.int 0)) (fun F E1 ho => ?_) ?_
      · dsimp only [VF.hideO, List.map]
        walk_at "vy"
        exact ⟨_, _, rfl, 0, 1, rfl, by decide, by decide, fun _ => ho, fun h => absurd h (by decide)⟩
      · dsimp only [aresV]
        walk_at "vy"
        refine y_ask2 (r := .num (.int 0)) (fun F E1 ho => ?_) ?_
        · dsimp only [VF.hideO, List.map]
          walk_at "vy"
          refine y_meth2 rfl ?_
          walk_at "vy"
          exact y_raised0 (by omega) (fun h => by omega) (fun h => by omega) fun _ => ho
        · dsimp only [aresV]
          walk_at "vy"
          refine VF.y_repL (by decide) (by decide) (by decide) ?_
          walk_at "vy"
          refine y_like (d := .lst [.lst [.str "InvalidNumber", .str "InvalidNumber", .int 0], .lst [.str "InvalidNumber", .str "InvalidNumber", .int 0]]) (.lst (pz_c (pz0.mono (by decide)) (pz_one (pz0.mono (by decide)))) (by simp)) ?_
          walk_at "vy"
          refine ⟨_, _, 0, rfl, rfl, y_raised0 (by decide) (fun h => absurd h (by decide)) (fun _ => ?_) fun h => absurd h (by decide)⟩
          walk_at "vy"
          refine VF.y_repL (by decide) (by decide) (by decide) ?_
          walk_at "vy"
          refine y_ratioSo (t := 1) (b := 1) (p := some (List.replicate 10 0)) (by omega) zero10 fun n6 hn6 => ?_
          walk_at "vy"
          refine y_meth2 rfl ?_
          walk_at "vy"
          refine y_raised0 (by omega) (fun h => ?_) (fun h => by omega) (fun h => by omega)
          walk_at "vy"
          refine y_ratioSo (t := 0) (b := 1) (p := none) (by omega) ⟨lt43 (by decide), lt43 (by decide), rfl, rfl⟩ fun n7 hn7 => ?_
          walk_at "vy"
          refine y_meth2 rfl ?_
          walk_at "vy"
          refine y_raised0 (by decide) (fun h => absurd h (by decide)) (fun _ => ?_) fun h => absurd h (by decide)
          walk_at "vy"
          refine VF.y_repL (by decide) (by decide) (by decide) ?_
          walk_at "vy"
          refine y_ratioSo (t := 1) (b := 1) (p := some (List.replicate 10 0)) (by omega) zero10 fun n8 hn8 => ?_
          walk_at "vy"
          exact hq _ (by omega)
    | some e =>
      unfold pD
      walk_at "vy"
      refine ⟨_, _, rfl, t, b, rfl, hD.1, hD.2.1, fun h => absurd hD.inv.1 (by omega), fun _ => ?_⟩
      walk_at "vy"
      have el : e.length = 10 := len10 hD e rfl
      have eng : (e.map fun x => VF.DV.int (0 - x)) = VF.iD (ng e) := by
        unfold VF.iD ng
        rw [List.map_map]
        exact List.map_congr_left fun x _ => by simp
      have esc : ∀ j : Int, (e.map fun x => VF.DV.int (x * j)) = VF.iD (sc j e) := fun j => by
        unfold VF.iD sc
        rw [List.map_map]
        exact List.map_congr_left fun x _ => by simp [Int.mul_comm]
      have k99 := hk.lt.2.2
      have hk2 : -99 ≤ k ∧ k ≤ 99 := by omega
      refine VF.y_lcA e VF.DV.int (fun x => .int (0 - x)) rfl (by rw [el]; decide) (fun j x acc R hj hacc hR => ?_) ?_
      · walk_at "vy"
        exact hR
      rw [eng]
      walk_at "vy"
      refine y_ratioSo (t := b) (b := t) (p := some (ng e)) (by omega) hD.inv.2 fun n6 hn6 => ?_
      walk_at "vy"
      refine y_meth2 rfl ?_
      walk_at "vy"
      refine y_raisedD hD hk fun U1 V1 hr3 => ?_
      walk_at "vy"
      have hex : ∀ {j x}, e[j]? = some x → -60 ≤ x ∧ x ≤ 60 := fun h => hD.2.2.2.2.1.2 _ (List.mem_of_getElem? h)
      refine VF.y_lcA e VF.DV.int (fun x => .int (x * k)) rfl (by rw [el]; decide) (fun j x acc R hj hacc hR => ?_) ?_
      · have hx := hex hj
        walk_at "vy"
        walk_at "vy"
        exact hR
      rw [esc]
      walk_at "vy"
      refine y_ratioSo (t := U1) (b := V1) (p := some (sc k e)) (by omega) hr3 fun n7 hn7 => ?_
      walk_at "vy"
      refine ⟨_, _, 0, rfl, rfl, y_raisedD hD (kb_small hD (by decide)) fun A0 B0 hr4 => ?_⟩
      walk_at "vy"
      refine ⟨_, _, 1, rfl, rfl, y_raisedD hD (kb_small hD (by decide)) fun A1 B1 hr5 => ?_⟩
      walk_at "vy"
      refine ⟨_, _, 3, rfl, rfl, y_raisedD hD (kb_small hD (by decide)) fun A3 B3 hr6 => ?_⟩
      walk_at "vy"
      refine VF.y_lcI (fun i acc m => m ≤ n7 + 2 * i ∧ acc = List.replicate i (.bl true)) ⟨by omega, rfl⟩ (fun i d acc m hd hI => ?_) (fun acc m hI => ?_)
      · obtain ⟨hm, rfl⟩ := hI
        have hi : i < 3 := (List.getElem?_eq_some_iff.mp hd).1
        obtain ⟨j3, A, B, rfl, hj30, hj31, h1, h2, hr7⟩ : ∃ (j3 : Int) (A B : Nat), d = .int i ∧ 0 ≤ j3 ∧ j3 ≤ 3 ∧ atI [VF.DV.ins "Ratio" ["top", "bottom"] [.int (A0 : Nat), .int (B0 : Nat)], .ins "Ratio" ["top", "bottom"] [.int (A1 : Nat), .int (B1 : Nat)], .ins "Ratio" ["top", "bottom"] [.int (A3 : Nat), .int (B3 : Nat)]] i = some (.ins "Ratio" ["top", "bottom"] [.int (A : Nat), .int (B : Nat)]) ∧ atI [.int 0, .int 1, .int 3] i = some (VF.DV.int j3) ∧ RatOk A B (some (sc j3 e)) := by
          match i, hi, hd with
          | 0, _, hd => exact ⟨0, A0, B0, (Option.some.inj hd).symm, by decide, by decide, rfl, rfl, hr4⟩
          | 1, _, hd => exact ⟨1, A1, B1, (Option.some.inj hd).symm, by decide, by decide, rfl, rfl, hr5⟩
          | 2, _, hd => exact ⟨3, A3, B3, (Option.some.inj hd).symm, by decide, by decide, rfl, rfl, hr6⟩
        walk_at "vy"
        refine VF.y_ixL h1 ?_
        walk_at "vy"
        refine VF.y_lcA e VF.DV.int (fun x => .int (x * j3)) rfl (by rw [el]; decide) (fun j x acc R hj hacc hR => ?_) ?_
        · have hx := hex hj
          walk_at "vy"
          refine VF.y_ixL h2 ?_
          walk_at "vy"
          exact hR
        rw [esc]
        walk_at "vy"
        refine y_ratioSo (t := A) (b := B) (p := some (sc j3 e)) (by omega) hr7 fun n8 hn8 => ?_
        walk_at "vy"
        exact ⟨by rw [List.length_replicate]; omega, by omega, List.replicate_succ'.symm⟩
      · obtain ⟨hm, rfl⟩ := hI
        have hm : m ≤ n7 + 6 := hm
        walk_at "vy"
        refine VF.y_all (bs := [true, true, true]) rfl ?_
        exact hq _ (by omega)
theorem y_ratios {n : Int} {Q : VF.DV → Int → Prop} {E : XV} (h : n ≤ 600000) (q : ∀ n', n' ≤ n + 2000 → Q (.bl true) n') : sRatios ([.bag] ++ []) n Q E := ⟨rfl, h, q⟩
end
end BF
/-! ## Refused ratios -/
namespace BF
open PySem PySem.Spec PyProof.Rows L2 VF
def sRefR : DSp := fun ds n Q _ => ds = [.bag] ∧ n ≤ 600000 ∧ ∀ n', n' ≤ n + 10 → Q (.bl true) n'
theorem y_rbad1 {x y : VF.DV} {n : Int} {Q : List Str → List VF.DV → Int → Prop} {E : XV} (px : Pl 8 x) (py : Pl 8 y) (g : geB x 0 = false) (he : E "InvalidNumber" nsN (invN x) n) : sRInit [x, y] n Q E := by
  refine ⟨x, y, rfl, px, py, fun _ => he, fun h => ?_, fun i j e _ h0 _ => ?_⟩
  · rw [g] at h; cases h
  · subst e
    have := of_decide_eq_false g
    omega
theorem y_rbad2 {x y : VF.DV} {n : Int} {Q : List Str → List VF.DV → Int → Prop} {E : XV} (px : Pl 8 x) (py : Pl 8 y) (g : geB x 0 = true) (g2 : geB y 1 = false) (he : E "InvalidNumber" nsN (invN y) n) : sRInit [x, y] n Q E := by
  refine ⟨x, y, rfl, px, py, fun h => ?_, fun _ _ => he, fun i j _ e _ h0 => ?_⟩
  · rw [g] at h; cases h
  · subst e
    have := of_decide_eq_false g2
    omega
section
variable {P : Program} {w : World} {K : PySem.W.Frag} {mg : Str → Option Value} {base : Heap}
theorem sc__law_refused_ratios : FnScope ["_law_bag_here", "_law_bad", "_law_worse", "_law_good", "_law_asks", "_law_odd"] ["_law_bag_here"] (defScope s__law_refused_ratios) := ⟨rfl, rfl, rfl, by decide +kernel, rfl, by decide +kernel, by decide +kernel⟩
theorem v__law_refused_ratios (T : TT K mg) (hTB : ∀ p ∈ tf, LamX.TabB base mg (He.cT K p).1 (He.cT K p).2) : FnOk P w K mg base (L2.CX P w) 14 (He.ga K "_law_refused_ratios") (fdOf K ("_law_refused_ratios", none)) ["_law_bag_here"] (liftSp K (Cs K) sRefR) := by
  obtain ⟨oc, od, dV, kV, doc, pm, an, cdv', ct, osl, hfd, lkT, hcT, _, _⟩ := (F__law_ask T).ex
  have bT := B__law_ask T
  rw [hfd] at bT lkT
  obtain ⟨hmT, huT⟩ := tab_only T "_law_refused_ratios" (by simp)
  obtain ⟨ds2, v2, b2⟩ := B_init2 T
  obtain ⟨ds1, v1, b1⟩ := B_init1 T
  refine v_okL (p := ("_law_refused_ratios", none)) (F__law_refused_ratios T) sc__law_refused_ratios (by decide) (by decide) ?_ (fun A outer s H W ds n Q' hC hE hr h => ⟨_, (vss_cons (vs_asg (ps_asg (ve_tup (va_cons (ve_call hC hE (pe_call (v__law_wrong T) (hr.mono (by decide)) (by rfl) (T.glo "_law_wrong" rfl) (F__law_wrong T).kp (B__law_wrong T) .nil (passes_call (takes_of rfl rfl rfl rfl) (fun _ _ _ _ h => h)) (va_cons (ve_var (pv 0)) va_nil)) (fun _ _ _ => .nil)) (va_cons (ve_call hC hE (pe_call (v__law_of T) (hr.mono (by decide)) (by rfl) (T.glo "_law_of" rfl) (F__law_of T).kp (B__law_of T) .nil (passes_call (takes_of rfl rfl rfl rfl) (fun _ _ _ _ h => h)) (va_cons (ve_var (pv 0)) (va_cons (ve_lst (va_cons (ve_int pe_int) (va_cons (ve_call hC hE (pe_call (v__law_wrong T) (hr.mono (by decide)) (by rfl) (T.glo "_law_wrong" rfl) (F__law_wrong T).kp (B__law_wrong T) .nil (passes_call (takes_of rfl rfl rfl rfl) (fun _ _ _ _ h => h)) (va_cons (ve_var (pv 0)) va_nil)) (fun _ _ _ => .nil)) va_nil))) va_nil))) (fun _ _ _ => .nil)) (va_cons (ve_op (op_addD K) d_add (ve_int pe_int) (ve_call hC hE (pe_call (v__law_draw T) (hr.mono (by decide)) (by rfl) (T.glo "_law_draw" rfl) (F__law_draw T).kp (B__law_draw T) .nil pass0 (va_cons (ve_var (pv 0)) (va_cons (ve_int pe_int) va_nil))) (fun _ _ _ => .nil))) va_nil)))) (vg_tup (m := 3) rfl rfl (vgs_cons (vg_name (pg_name (i := 1) sc__law_refused_ratios.nd rfl (Or.inr rfl))) (vgs_cons (vg_name (pg_name (i := 2) sc__law_refused_ratios.nd rfl (Or.inr rfl))) (vgs_cons (vg_name (pg_name (i := 3) sc__law_refused_ratios.nd rfl (Or.inr rfl))) vgs_nil))))))
  (vss_cons (vs_set (ps_set (i := 4) sc__law_refused_ratios.nd rfl (Or.inl rfl) (ve_lst (va_cons (ve_ask hC (LamX.pe_lamcall (k := 8) (T := tabs K) (by rfl) (T.glo "_law_ask" rfl) (F__law_ask T).kp lkT hcT bT sc__law_ask rfl (Or.inl rfl) (ask_gives T (hr.mono (by decide))) (hTB _ (by decide)) rfl hmT huT (hr.mono (by decide)) (LamX.lamS_by (sc := defScope s__law_refused_ratios) (by decide +kernel)) rfl (fun _ _ _ _ _ => rfl) (fun A outer s H E f c' hr => ve_lambody2 fun W E1 hC hE => (ve_make (cl := "Ratio") hC hE (pe_makeE (T.mkr "Ratio" rfl) (v_Ratio___init__ T) (hr.mono (by decide)) (by rfl) (T.glo "Ratio" rfl) b2 v2 (passes_call (takes_of rfl rfl rfl rfl) (fun _ _ _ _ h => h)) (va_cons (ve_var (pv 1)) (va_cons (ve_var (pv 2)) va_nil))) (fun _ _ _ => .nil))))) (va_cons (ve_ask hC (LamD.pe_lamcallD (k := 8) (T := tabs K) (by rfl) (T.glo "_law_ask" rfl) (F__law_ask T).kp lkT hcT bT sc__law_ask rfl (Or.inl rfl) (ask_gives T (hr.mono (by decide))) (hTB _ (by decide)) rfl hmT huT (hr.mono (by decide)) (LamD.lamS1_by (sc := defScope s__law_refused_ratios) (by decide +kernel)) rfl pe_int (fun _ _ _ _ _ _ => ⟨_, rfl, fun _ => rfl⟩) (fun A outer s H E f c' hr => ve_lambody2 fun W E1 hC hE => (ve_make (cl := "Ratio") hC hE (pe_makeE (T.mkr "Ratio" rfl) (v_Ratio___init__ T) (hr.mono (by decide)) (by rfl) (T.glo "Ratio" rfl) b1 v1 (passes_call (takes_of rfl rfl rfl rfl) (fun _ _ _ _ h => h)) (va_cons (ve_var (pv 1)) va_nil)) (fun _ _ _ => .cons (.int 1) .nil))))) (va_cons (ve_ask hC (LamD.pe_lamcallD (k := 8) (T := tabs K) (by rfl) (T.glo "_law_ask" rfl) (F__law_ask T).kp lkT hcT bT sc__law_ask rfl (Or.inl rfl) (ask_gives T (hr.mono (by decide))) (hTB _ (by decide)) rfl hmT huT (hr.mono (by decide)) (LamD.lamS1_by (sc := defScope s__law_refused_ratios) (by decide +kernel)) rfl pe_int (fun _ _ _ _ _ _ => ⟨_, rfl, fun _ => rfl⟩) (fun A outer s H E f c' hr => ve_lambody2 fun W E1 hC hE => (ve_make (cl := "Ratio") hC hE (pe_makeE (T.mkr "Ratio" rfl) (v_Ratio___init__ T) (hr.mono (by decide)) (by rfl) (T.glo "Ratio" rfl) b2 v2 (passes_call (takes_of rfl rfl rfl rfl) (fun _ _ _ _ h => h)) (va_cons (ve_var (pv 3)) (va_cons (ve_var (pv 2)) va_nil))) (fun _ _ _ => .nil))))) va_nil))))))
  (vss_cons (vs_set (ps_set (i := 4) sc__law_refused_ratios.nd rfl (Or.inl rfl) (ve_op (op_addD K) d_add (ve_var (pv 4)) (ve_lst (va_cons (ve_ask hC (LamX.pe_lamcall (k := 8) (T := tabs K) (by rfl) (T.glo "_law_ask" rfl) (F__law_ask T).kp lkT hcT bT sc__law_ask rfl (Or.inl rfl) (ask_gives T (hr.mono (by decide))) (hTB _ (by decide)) rfl hmT huT (hr.mono (by decide)) (LamX.lamS_by (sc := defScope s__law_refused_ratios) (by decide +kernel)) rfl (fun _ _ _ _ _ => rfl) (fun A outer s H E f c' hr => ve_lambody2 fun W E1 hC hE => (ve_call hC hE (pe_call (v_count_ratio T) (hr.mono (by decide)) (by rfl) (T.glo "count_ratio" rfl) (F_count_ratio T).kp (B_count_ratio T) .nil (passes_call (takes_of rfl rfl rfl rfl) (fun _ _ _ _ h => h)) (va_cons (ve_var (pv 1)) (va_cons (ve_var (pv 3)) va_nil))) (fun _ _ _ => .nil))))) (va_cons (ve_ask hC (LamD.pe_lamcallD (k := 8) (T := tabs K) (by rfl) (T.glo "_law_ask" rfl) (F__law_ask T).kp lkT hcT bT sc__law_ask rfl (Or.inl rfl) (ask_gives T (hr.mono (by decide))) (hTB _ (by decide)) rfl hmT huT (hr.mono (by decide)) (LamD.lamS1_by (sc := defScope s__law_refused_ratios) (by decide +kernel)) rfl pe_int (fun _ _ _ _ _ _ => ⟨_, rfl, fun _ => rfl⟩) (fun A outer s H E f c' hr => ve_lambody2 fun W E1 hC hE => (ve_call hC hE (pe_call (v_count_ratio T) (hr.mono (by decide)) (by rfl) (T.glo "count_ratio" rfl) (F_count_ratio T).kp (B_count_ratio T) .nil (passes_call (takes_of rfl rfl rfl rfl) (fun _ _ _ _ h => h)) (va_cons (ve_var (pv 3)) (va_cons (ve_var (pv 2)) va_nil))) (fun _ _ _ => .nil))))) va_nil))))))
  (vss_one (vs_ret (ps_ret (ve_call hC hE (pe_call (v__law_like T 4) (hr.mono (by decide)) (by rfl) (T.glo "_law_like" rfl) (F__law_like T).kp (B__law_like T) .nil (passes_call (takes_of rfl rfl rfl rfl) (fun _ _ _ _ h => h)) (va_cons (ve_var (pv 4)) (va_cons (ve_ofO (vo_lc (pe_lc (own := [("_law_odd", 5)]) rfl sc__law_refused_ratios.nd (vi_list rfl (ve_lst (va_cons (ve_var (pv 1)) (va_cons (ve_var (pv 1)) (va_cons (ve_var (pv 2)) (va_cons (ve_var (pv 1)) (va_cons (ve_var (pv 2)) va_nil))))))) (blkOk_by (N := ["_law_bag_here", "_law_bad", "_law_worse", "_law_good", "_law_asks", "_law_odd"]) (sc := defScope s__law_refused_ratios) (by decide +kernel)) (fun _ _ _ _ _ => (vg_name (pg_name (i := 5) sc__law_refused_ratios.nd rfl (Or.inl rfl)))) (fun _ _ _ _ _ => vts_nil) (fun _ _ _ _ _ => (ve_lst (va_cons (ve_str pe_str) (va_cons (ve_str pe_str) (va_cons (ve_var (pv 5)) va_nil)))))))) va_nil))) (fun _ _ _ => .nil)))))))), ?_⟩)
  · rintro ds n Q E ⟨rfl, _⟩; rfl
  · obtain ⟨rfl, hn, hq⟩ := h
    walk_at "vin"
    walk_at "vy"
    refine y_wrong (by omega) fun bad pb gb => ?_
    walk_at "vy"
    refine y_wrong (by omega) fun w0 pw gw => ?_
    walk_at "vy"
    refine y_of (by omega) (by simp) (by simp) fun j worse hj => ?_
    obtain ⟨pw, gw⟩ : Pz 2 worse ∧ geB worse 1 = false := by
      have hm := List.mem_of_getElem? hj
      simp only [List.mem_cons, List.not_mem_nil, or_false] at hm
      rcases hm with rfl | rfl
      · exact ⟨.int, rfl⟩
      · refine ⟨pw, ?_⟩
        cases worse with
        | int i =>
          have := of_decide_eq_false gw
          exact decide_eq_false (by omega)
        | _ => rfl
    walk_at "vy"
    refine y_draw (by omega) (by decide) (by decide) fun z z0 z1 => ?_
    have pb8 : Pl 8 bad := pb.1.mono (by decide)
    have pw8 : Pl 8 worse := pw.1.mono (by decide)
    have gg : geB (.int (1 + z)) 0 = true := decide_eq_true (by omega)
    walk_at "vy"
    refine y_ask2 (r := .num bad) (fun F E1 ho => ?_) ?_
    · dsimp only [VF.hideO, List.map]
      walk_at "vy"
      exact y_rbad1 pb8 pw8 gb ho
    dsimp only [aresV]
    walk_at "vy"
    refine y_ask2 (r := .num bad) (fun F E1 ho => ?_) ?_
    · dsimp only [VF.hideO, List.map]
      walk_at "vy"
      exact y_rbad1 pb8 .int gb ho
    dsimp only [aresV]
    walk_at "vy"
    refine y_ask2 (r := .num worse) (fun F E1 ho => ?_) ?_
    · dsimp only [VF.hideO, List.map]
      walk_at "vy"
      exact y_rbad2 .int pw8 gg gw ho
    dsimp only [aresV]
    walk_at "vy"
    refine y_ask2 (r := .num bad) (fun F E1 ho => ?_) ?_
    · dsimp only [VF.hideO, List.map]
      walk_at "vy"
      exact y_count (y_rbad1 pb8 .int gb ho)
    dsimp only [aresV]
    walk_at "vy"
    refine y_ask2 (r := .num worse) (fun F E1 ho => ?_) ?_
    · dsimp only [VF.hideO, List.map]
      walk_at "vy"
      exact y_count (y_rbad2 .int pw8 gg gw ho)
    dsimp only [aresV]
    walk_at "vy"
    refine VF.y_addL (by simp) ?_
    walk_at "vy"
    refine VF.y_lcA [bad, bad, worse, bad, worse] id (fun d => .lst [.str "InvalidNumber", .str "InvalidNumber", d]) rfl (by simp) (fun j x acc R hj hacc hR => ?_) ?_
    · walk_at "vy"
      exact hR
    walk_at "vy"
    have pl : ∀ {x}, Pz 2 x → Pz 3 (.lst [.str "InvalidNumber", .str "InvalidNumber", x]) := fun h => .lst (pz_c (.str (by decide +kernel)) (pz_c (.str (by decide +kernel)) (pz_one h))) (by simp)
    refine y_like (.lst (pz_c (pl pb) (pz_c (pl pb) (pz_c (pl pw) (pz_c (pl pb) (pz_one (pl pw)))))) (by simp)) ?_
    walk_at "vy"
    exact hq _ (by omega)
theorem y_refR {n : Int} {Q : VF.DV → Int → Prop} {E : XV} (h : n ≤ 600000) (q : ∀ n', n' ≤ n + 10 → Q (.bl true) n') : sRefR ([.bag] ++ []) n Q E := ⟨rfl, h, q⟩
end
end BF
/-! ## Words -/
namespace BF
open PySem PySem.Spec PyProof.Rows L2 VF
def apd (a b : List VF.DV) : List VF.DV := a ++ b
def csN : List Str := ["InvalidNumber", "TooMany"]
section
variable {P : Program} {w : World} {K : PySem.W.Frag} {mg : Str → Option Value} {base : Heap}
theorem kb_all (T : TT K mg) : KBn K (fdOf K ("all_words", none)) ["length", "signs", "most"] 2 ["most"] (fun us ws => us ++ ws) (fun vs zs => vs ++ zs) :=
  kbn_of (F_all_words T) 2 ["most"] (fun a b => a ++ b) (fun h1 h2 => h1.append h2) fun _ _ _ _ _ _ us ws h1 h2 => match us, ws, h1, h2 with | [_, _], [_], _, _ => rfl
theorem B_all (T : TT K mg) : ∃ ds, Vals [V.int 4096] ds ∧ Binds K (fdOf K ("all_words", none)) ["length", "signs", "most"] ds :=
  (F_all_words T).binds0 2 (by simp [He.DefD.kws, d_all_words]) rfl fun _ _ _ _ _ _ us ks h1 h2 => match us, ks, h1, h2 with | [_, _], [_], _, _ => ⟨_, _, _, _, _, _, rfl, rfl, rfl⟩
theorem noStop_all (T : TT K mg) {E : XK} : NoStop K (ER K csN E) := noStopR fun c hc => by
  simp only [csN, List.mem_cons, List.not_mem_nil, or_false] at hc
  rcases hc with rfl | rfl
  · exact of_decide_eq_true (m_48 T)
  · exact of_decide_eq_true (m_49 T)
end
theorem numB_int0 {k : Int} {lo hi : Int} (h : numB (.int k) lo hi = false) : k < lo ∨ hi < k := by
  have h : (decide (lo ≤ k) && decide (k ≤ hi)) = false := h
  rw [Bool.and_eq_false_iff, decide_eq_false_iff_not, decide_eq_false_iff_not] at h
  omega
theorem numB_lo {k : Int} {lo hi : Int} (h : k < lo) : numB (.int k) lo hi = false := by
  show (decide (lo ≤ k) && decide (k ≤ hi)) = false
  rw [decide_eq_false (by omega)]
  rfl
theorem numB_hi {k : Int} {lo hi : Int} (h : hi < k) : numB (.int k) lo hi = false := by
  show (decide (lo ≤ k) && decide (k ≤ hi)) = false
  rw [decide_eq_false (show ¬ k ≤ hi by omega), Bool.and_false]
theorem rng_get {lo : Int} {k i : Nat} {d : VF.DV} (h : (rngD lo k)[i]? = some d) : i < k ∧ d = .int (lo + (i : Int)) := by
  have hi : i < k := by
    have := (List.getElem?_eq_some_iff.mp h).1
    rwa [rngD_len] at this
  refine ⟨hi, ?_⟩
  rw [rngD_map, List.getElem?_map, List.getElem?_range hi] at h
  exact (Option.some.inj h).symm
theorem nD_at {xs : List Nat} {i x : Nat} (h : xs[i]? = some x) : atI (nD xs) (i : Int) = some (.int x) := atI_nat (by unfold nD; rw [List.getElem?_map, h]; rfl)
theorem pz_nD {xs : List Nat} (h : xs.length ≤ 1000000) : Pz 1 (.tup (nD xs)) := .tup (fun d hd => by
  obtain ⟨x, _, rfl⟩ := List.mem_map.mp hd
  exact .int) (by rw [nD_len]; exact h)
def sWords : DSp := fun ds n Q _ => ds = [.bag] ∧ n ≤ 600000 ∧ ∀ n', n' ≤ n + 300 → Q (.bl true) n'
theorem numB_in {k : Int} {lo hi : Int} (h : lo ≤ k) (h2 : k ≤ hi) : numB (.int k) lo hi = true := by
  show (decide (lo ≤ k) && decide (k ≤ hi)) = true
  rw [decide_eq_true h, decide_eq_true h2]
  rfl
theorem y_allP {k s : Nat} {c n : Int} {Q : List VF.DV → Int → Prop} {E : XV} (h1 : k ≤ 99) (h2 : 1 ≤ s) (h3 : s ≤ 64) (hb : c < (s ^ k : Nat) → E "TooMany" nsT [.str "TooMany", .int (s ^ k : Nat), .str "words"] n) (hg : (s ^ k : Nat) ≤ c → s ^ k ≤ 5000 ∧ Q (wlD s k) n) : sAll [.int k, .int s, .int c] n Q E := by
  refine ⟨_, _, c, rfl, .int, .int, fun h => ?_, fun _ h => ?_, fun k' s' e e' _ _ _ => ?_⟩
  · rw [numB_in (by omega) (by omega)] at h; cases h
  · rw [numB_in (by omega) (by omega)] at h; cases h
  · have e1 : k' = k := by injection e with e; omega
    have e2 : s' = s := by injection e' with e'; omega
    subst e1 e2
    exact ⟨hb, hg⟩
section
variable {P : Program} {w : World} {K : PySem.W.Frag} {mg : Str → Option Value} {base : Heap}
theorem sc__law_words : FnScope ["_law_bag_here", "_law_signs", "_law_size", "_law_word", "_law_worth_here", "_law_due", "_law_k", "_law_index", "_law_odd", "_law_cap", "_law_refused", "_law_told"] ["_law_bag_here"] (defScope s__law_words) := ⟨rfl, rfl, rfl, by decide +kernel, rfl, by decide +kernel, by decide +kernel⟩
theorem v__law_words (T : TT K mg) (hTB : ∀ p ∈ tf, LamX.TabB base mg (He.cT K p).1 (He.cT K p).2) : FnOk P w K mg base (L2.CX P w) 14 (He.ga K "_law_words") (fdOf K ("_law_words", none)) ["_law_bag_here"] (liftSp K (Cs K) sWords) := by
  obtain ⟨oc, od, dV, kV, doc, pm, an, cdv', ct, osl, hfd, lkT, hcT, _, _⟩ := (F__law_ask T).ex
  have bT := B__law_ask T
  rw [hfd] at bT lkT
  obtain ⟨hmT, huT⟩ := tab_only T "_law_words" (by simp)
  obtain ⟨dsA, vA, bA⟩ := B_all T
  refine v_okL (p := ("_law_words", none)) (F__law_words T) sc__law_words (by decide) (by decide) ?_ (fun A outer s H W ds n Q' hC hE hr h => ⟨_, (vss_cons (vs_set (ps_set (i := 1) sc__law_words.nd rfl (Or.inr rfl) (ve_call hC hE (pe_call (v__law_of T) (hr.mono (by decide)) (by rfl) (T.glo "_law_of" rfl) (F__law_of T).kp (B__law_of T) .nil (passes_call (takes_of rfl rfl rfl rfl) (fun _ _ _ _ h => h)) (va_cons (ve_var (pv 0)) (va_cons (ve_lst (va_cons (ve_op (op_addD K) d_add (ve_int pe_int) (ve_call hC hE (pe_call (v__law_draw T) (hr.mono (by decide)) (by rfl) (T.glo "_law_draw" rfl) (F__law_draw T).kp (B__law_draw T) .nil pass0 (va_cons (ve_var (pv 0)) (va_cons (ve_int pe_int) va_nil))) (fun _ _ _ => .nil))) (va_cons (ve_op (op_addD K) d_add (ve_int pe_int) (ve_call hC hE (pe_call (v__law_draw T) (hr.mono (by decide)) (by rfl) (T.glo "_law_draw" rfl) (F__law_draw T).kp (B__law_draw T) .nil pass0 (va_cons (ve_var (pv 0)) (va_cons (ve_int pe_int) va_nil))) (fun _ _ _ => .nil))) (va_cons (ve_op (op_addD K) d_add (ve_int pe_int) (ve_call hC hE (pe_call (v__law_draw T) (hr.mono (by decide)) (by rfl) (T.glo "_law_draw" rfl) (F__law_draw T).kp (B__law_draw T) .nil pass0 (va_cons (ve_var (pv 0)) (va_cons (ve_int pe_int) va_nil))) (fun _ _ _ => .nil))) (va_cons (ve_int pe_int) va_nil))))) va_nil))) (fun _ _ _ => .nil))))
  (vss_cons (vs_set (ps_set (i := 2) sc__law_words.nd rfl (Or.inr rfl) (ve_call hC hE (pe_call (v__law_of T) (hr.mono (by decide)) (by rfl) (T.glo "_law_of" rfl) (F__law_of T).kp (B__law_of T) .nil (passes_call (takes_of rfl rfl rfl rfl) (fun _ _ _ _ h => h)) (va_cons (ve_var (pv 0)) (va_cons (ve_lst (va_cons (ve_call hC hE (pe_call (v__law_draw T) (hr.mono (by decide)) (by rfl) (T.glo "_law_draw" rfl) (F__law_draw T).kp (B__law_draw T) .nil pass0 (va_cons (ve_var (pv 0)) (va_cons (ve_int pe_int) va_nil))) (fun _ _ _ => .nil)) (va_cons (ve_call hC hE (pe_call (v__law_draw T) (hr.mono (by decide)) (by rfl) (T.glo "_law_draw" rfl) (F__law_draw T).kp (B__law_draw T) .nil pass0 (va_cons (ve_var (pv 0)) (va_cons (ve_int pe_int) va_nil))) (fun _ _ _ => .nil)) (va_cons (ve_call hC hE (pe_call (v__law_draw T) (hr.mono (by decide)) (by rfl) (T.glo "_law_draw" rfl) (F__law_draw T).kp (B__law_draw T) .nil pass0 (va_cons (ve_var (pv 0)) (va_cons (ve_int pe_int) va_nil))) (fun _ _ _ => .nil)) va_nil)))) va_nil))) (fun _ _ _ => .nil))))
  (vss_cons (vs_set (ps_set (i := 3) sc__law_words.nd rfl (Or.inl rfl) (ve_cb (pe_callTy (call_tupLTK K) (by rfl) (T.free "tuple" rfl) boot_tuple (va_cons (ve_ofO (vo_lc (pe_lc (own := [("_law_k", 6)]) rfl sc__law_words.nd (vi_rng1 (pi_range1 (by rfl) (T.free "range" rfl) (va_cons (ve_var (pv 2)) va_nil))) (blkOk_by (N := ["_law_bag_here", "_law_signs", "_law_size", "_law_word", "_law_worth_here", "_law_due", "_law_k", "_law_index", "_law_odd", "_law_cap", "_law_refused", "_law_told"]) (sc := defScope s__law_words) (by decide +kernel)) (fun _ _ _ _ _ => (vg_name (pg_name (i := 6) sc__law_words.nd rfl (Or.inl rfl)))) (fun _ _ _ _ _ => vts_nil) (fun _ _ _ _ _ => (ve_call hC elink0 (pe_call (v__law_draw T) (hr.mono (by decide)) (by rfl) (T.glo "_law_draw" rfl) (F__law_draw T).kp (B__law_draw T) .nil pass0 (va_cons (ve_var (pv 0)) (va_cons (ve_var (pv 1)) va_nil))) (fun _ _ _ => .nil)))))) va_nil)) d_tuple)))
  (vss_cons (vs_asg (ps_asg (ve_tup (va_cons (ve_int pe_int) (va_cons (ve_int pe_int) va_nil))) (vg_tup (m := 2) rfl rfl (vgs_cons (vg_name (pg_name (i := 4) sc__law_words.nd rfl (Or.inl rfl))) (vgs_cons (vg_name (pg_name (i := 5) sc__law_words.nd rfl (Or.inl rfl))) vgs_nil)))))
  (vss_cons (vs_for (passes_of rfl) rfl (vi_rng1 (pi_range1 (by rfl) (T.free "range" rfl) (va_cons (ve_var (pv 2)) va_nil))) (vg_name (pg_name (i := 6) sc__law_words.nd rfl (Or.inl rfl))) (vss_one (vs_par (ps_par (i := 5) (j := 4) rfl sc__law_words.nd rfl rfl (by decide) rfl rfl (va_cons (ve_op (op_addD K) d_add (ve_var (pv 5)) (ve_op op_mulW d_I (ve_ix (ix_LTK K) d_ix (ve_var (pv 3)) (ve_op op_sub d_I0 (ve_op op_sub d_I0 (ve_var (pv 2)) (ve_int pe_int)) (ve_var (pv 6))) (fun _ _ => rfl)) (ve_var (pv 4)))) (va_cons (ve_op op_mulW d_I (ve_var (pv 4)) (ve_var (pv 1))) va_nil)) rfl))))
  (vss_cons (vs_set (ps_set (i := 7) sc__law_words.nd rfl (Or.inl rfl) (ve_call hC hE (pe_call (v_word_index T) (hr.mono (by decide)) (by rfl) (T.glo "word_index" rfl) (F_word_index T).kp (B_word_index T) .nil (passes_call (takes_of rfl rfl rfl rfl) (fun _ _ _ _ h => h)) (va_cons (ve_var (pv 3)) (va_cons (ve_var (pv 1)) va_nil))) (fun _ _ _ => .nil))))
  (vss_cons (vs_if (vt_not (vt_val (ve_call hC hE (pe_call (v__law_like T 5) (hr.mono (by decide)) (by rfl) (T.glo "_law_like" rfl) (F__law_like T).kp (B__law_like T) .nil (passes_call (takes_of rfl rfl rfl rfl) (fun _ _ _ _ h => h)) (va_cons (ve_lst (va_cons (ve_var (pv 7)) (va_cons (ve_call hC hE (pe_call (v_word_at T) (hr.mono (by decide)) (by rfl) (T.glo "word_at" rfl) (F_word_at T).kp (B_word_at T) .nil (passes_call (takes_of rfl rfl rfl rfl) (fun _ _ _ _ h => h)) (va_cons (ve_var (pv 7)) (va_cons (ve_var (pv 2)) (va_cons (ve_var (pv 1)) va_nil)))) (fun _ _ _ => .nil)) (va_cons (ve_call hC hE (pe_call (v_word_at T) (hr.mono (by decide)) (by rfl) (T.glo "word_at" rfl) (F_word_at T).kp (B_word_at T) .nil (passes_call (takes_of rfl rfl rfl rfl) (fun _ _ _ _ h => h)) (va_cons (ve_var (pv 5)) (va_cons (ve_var (pv 2)) (va_cons (ve_var (pv 1)) va_nil)))) (fun _ _ _ => .nil)) va_nil)))) (va_cons (ve_lst (va_cons (ve_var (pv 5)) (va_cons (ve_var (pv 3)) (va_cons (ve_var (pv 3)) va_nil)))) va_nil))) (fun _ _ _ => .nil)))) (vss_one (vs_ret (ps_ret (ve_bl pe_bl)))) vss_nil)
  (vss_cons (vs_set (ps_set (i := 8) sc__law_words.nd rfl (Or.inr rfl) (ve_call hC hE (pe_call (v__law_of T) (hr.mono (by decide)) (by rfl) (T.glo "_law_of" rfl) (F__law_of T).kp (B__law_of T) .nil (passes_call (takes_of rfl rfl rfl rfl) (fun _ _ _ _ h => h)) (va_cons (ve_var (pv 0)) (va_cons (ve_lst (va_cons (ve_op op_sub d_I0 (ve_int pe_int) (ve_int pe_int)) (va_cons (ve_bl pe_bl) (va_cons (ve_non pe_non) (va_cons (ve_str pe_str) (va_cons (ve_tup (va_cons (ve_int pe_int) va_nil)) (va_cons (ve_lst (va_cons (ve_int pe_int) va_nil)) (va_cons (ve_op op_sub d_I0 (ve_op op_sub d_I0 (ve_int pe_int) (ve_call hC hE (pe_call (v__law_draw T) (hr.mono (by decide)) (by rfl) (T.glo "_law_draw" rfl) (F__law_draw T).kp (B__law_draw T) .nil pass0 (va_cons (ve_var (pv 0)) (va_cons (ve_int pe_int) va_nil))) (fun _ _ _ => .nil))) (ve_int pe_int)) va_nil)))))))) va_nil))) (fun _ _ _ => .nil))))
  (vss_cons (vs_set (ps_set (i := 8) sc__law_words.nd rfl (Or.inr rfl) (ve_if (PW.pt (vw_and (vt_cmp op_lt d_IB (ve_var (pv 4)) (ve_op op_pow d_I (ve_int pe_int) (ve_int pe_int)) (nomark _)) (vw_and1 (vt_cmp (op_eqU K hr.units) d_eq (ve_call hC hE (pe_call (v__law_draw T) (hr.mono (by decide)) (by rfl) (T.glo "_law_draw" rfl) (F__law_draw T).kp (B__law_draw T) .nil pass0 (va_cons (ve_var (pv 0)) (va_cons (ve_int pe_int) va_nil))) (fun _ _ _ => .nil)) (ve_int pe_int) (nomark _))))) (ve_var (pv 4)) (ve_var (pv 8)))))
  (vss_cons (vs_if (vt_not (vt_val (ve_call hC hE (pe_call (v__law_like T 5) (hr.mono (by decide)) (by rfl) (T.glo "_law_like" rfl) (F__law_like T).kp (B__law_like T) .nil (passes_call (takes_of rfl rfl rfl rfl) (fun _ _ _ _ h => h)) (va_cons (ve_ask hC (LamX.pe_lamcall (k := 8) (T := tabs K) (by rfl) (T.glo "_law_ask" rfl) (F__law_ask T).kp lkT hcT bT sc__law_ask rfl (Or.inl rfl) (ask_gives T (hr.mono (by decide))) (hTB _ (by decide)) rfl hmT huT (hr.mono (by decide)) (LamX.lamS_by (sc := defScope s__law_words) (by decide +kernel)) rfl (fun _ _ _ _ _ => rfl) (fun A outer s H E f c' hr => ve_lambody2 fun W E1 hC hE => (ve_call hC hE (pe_call (v_word_at T) (hr.mono (by decide)) (by rfl) (T.glo "word_at" rfl) (F_word_at T).kp (B_word_at T) .nil (passes_call (takes_of rfl rfl rfl rfl) (fun _ _ _ _ h => h)) (va_cons (ve_var (pv 8)) (va_cons (ve_var (pv 2)) (va_cons (ve_var (pv 1)) va_nil)))) (fun _ _ _ => .nil))))) (va_cons (ve_lst (va_cons (ve_str pe_str) (va_cons (ve_str pe_str) (va_cons (ve_var (pv 8)) va_nil)))) va_nil))) (fun _ _ _ => .nil)))) (vss_one (vs_ret (ps_ret (ve_bl pe_bl)))) vss_nil)
  (vss_cons (vs_set (ps_set (i := 9) sc__law_words.nd rfl (Or.inr rfl) (ve_call hC hE (pe_call (v__law_of T) (hr.mono (by decide)) (by rfl) (T.glo "_law_of" rfl) (F__law_of T).kp (B__law_of T) .nil (passes_call (takes_of rfl rfl rfl rfl) (fun _ _ _ _ h => h)) (va_cons (ve_var (pv 0)) (va_cons (ve_lst (va_cons (ve_gint (by rfl) (T.int "MOST" 4096 rfl)) (va_cons (ve_cb (pe_callB (call_max2 rfl) (by rfl) (T.free "max" rfl) boot_max (va_cons (ve_int pe_int) (va_cons (ve_op op_sub d_I0 (ve_cb (pe_callB (call_min2 rfl) (by rfl) (T.free "min" rfl) boot_min (va_cons (ve_var (pv 4)) (va_cons (ve_op op_pow d_I (ve_int pe_int) (ve_int pe_int)) va_nil))) d_min2) (ve_int pe_int)) va_nil))) d_max2) (va_cons (ve_cb (pe_callB (call_min2 rfl) (by rfl) (T.free "min" rfl) boot_min (va_cons (ve_var (pv 4)) (va_cons (ve_op op_sub d_I0 (ve_op op_pow d_I (ve_int pe_int) (ve_int pe_int)) (ve_int pe_int)) va_nil))) d_min2) (va_cons (ve_op (op_addD K) d_add (ve_int pe_int) (ve_call hC hE (pe_call (v__law_draw T) (hr.mono (by decide)) (by rfl) (T.glo "_law_draw" rfl) (F__law_draw T).kp (B__law_draw T) .nil pass0 (va_cons (ve_var (pv 0)) (va_cons (ve_int pe_int) va_nil))) (fun _ _ _ => .nil))) va_nil))))) va_nil))) (fun _ _ _ => .nil))))
  (vss_cons (vs_set (ps_set (i := 10) sc__law_words.nd rfl (Or.inl rfl) (ve_lst (va_cons (ve_str pe_str) (va_cons (ve_str pe_str) (va_cons (ve_str pe_str) (va_cons (ve_var (pv 4)) va_nil)))))))
  (vss_cons (vs_if (vt_cmp op_gt d_IB (ve_var (pv 4)) (ve_var (pv 9)) (nomark _)) (vss_one (vs_ret (ps_ret (ve_call hC hE (pe_call (v__law_like T 5) (hr.mono (by decide)) (by rfl) (T.glo "_law_like" rfl) (F__law_like T).kp (B__law_like T) .nil (passes_call (takes_of rfl rfl rfl rfl) (fun _ _ _ _ h => h)) (va_cons (ve_ask hC (LamX.pe_lamcall (k := 8) (T := tabs K) (by rfl) (T.glo "_law_ask" rfl) (F__law_ask T).kp lkT hcT bT sc__law_ask rfl (Or.inl rfl) (ask_gives T (hr.mono (by decide))) (hTB _ (by decide)) rfl hmT huT (hr.mono (by decide)) (LamX.lamS_by (sc := defScope s__law_words) (by decide +kernel)) rfl (fun _ _ _ _ _ => rfl) (fun A outer s H E f c' hr => ve_lambody2 fun W E1 hC hE => (ve_listG1 (n0 := 2) (m := 1) (sp := sAll) (gd := apd) hC (elinkR (cs := csN) hE) (pe_listG (pgen_callN (g_all_words T) (hr.mono (by decide)) (by rfl) (T.glo "all_words" rfl) (F_all_words T).kp (kb_all T) (va_cons (ve_var (pv 2)) (va_cons (ve_var (pv 1)) va_nil)) (vk_cons (ve_var (pv 9)) vk_nil)) (passes_call (takes_of rfl rfl rfl rfl) (fun _ _ _ _ h => h.1)) (noStop_all T) (hr.mono (by decide)) (by rfl) (T.free "list" rfl) rfl) (fun _ _ _ _ _ _ _ h1 h2 => VF.DatL.app h1 h2))))) (va_cons (ve_var (pv 10)) va_nil))) (fun _ _ _ => .nil))))) vss_nil)
  (vss_cons (vs_if (vt_cmp op_gt d_IB (ve_var (pv 4)) (ve_int pe_int) (nomark _)) (vss_one (vs_ret (ps_ret (ve_or (ve_cmp op_le d_IB (ve_var (pv 4)) (ve_gint (by rfl) (T.int "MOST" 4096 rfl)) (nomark _)) (pe_one (ve_call hC hE (pe_call (v__law_like T 5) (hr.mono (by decide)) (by rfl) (T.glo "_law_like" rfl) (F__law_like T).kp (B__law_like T) .nil (passes_call (takes_of rfl rfl rfl rfl) (fun _ _ _ _ h => h)) (va_cons (ve_ask hC (LamX.pe_lamcall (k := 8) (T := tabs K) (by rfl) (T.glo "_law_ask" rfl) (F__law_ask T).kp lkT hcT bT sc__law_ask rfl (Or.inl rfl) (ask_gives T (hr.mono (by decide))) (hTB _ (by decide)) rfl hmT huT (hr.mono (by decide)) (LamX.lamS_by (sc := defScope s__law_words) (by decide +kernel)) rfl (fun _ _ _ _ _ => rfl) (fun A outer s H E f c' hr => ve_lambody2 fun W E1 hC hE => (ve_listG (sp := sAll) (dds := [.int 4096]) hC (elinkR (cs := csN) hE) (pe_listG (pgen_call (g_all_words T) (hr.mono (by decide)) (by rfl) (T.glo "all_words" rfl) (F_all_words T).kp bA vA (va_cons (ve_var (pv 2)) (va_cons (ve_var (pv 1)) va_nil))) (passes_call (takes_of rfl rfl rfl rfl) (fun _ _ _ _ h => h.1)) (noStop_all T) (hr.mono (by decide)) (by rfl) (T.free "list" rfl) rfl) (fun _ _ _ => .cons (.int 4096) .nil))))) (va_cons (ve_var (pv 10)) va_nil))) (fun _ _ _ => .nil))))))) vss_nil)
  (vss_cons (vs_set (ps_set (i := 11) sc__law_words.nd rfl (Or.inl rfl) (ve_lst (va_cons (ve_listG1 (n0 := 2) (m := 1) (sp := sAll) (gd := apd) hC (elinkR (cs := csN) hE) (pe_listG (pgen_callN (g_all_words T) (hr.mono (by decide)) (by rfl) (T.glo "all_words" rfl) (F_all_words T).kp (kb_all T) (va_cons (ve_var (pv 2)) (va_cons (ve_var (pv 1)) va_nil)) (vk_cons (ve_var (pv 9)) vk_nil)) (passes_call (takes_of rfl rfl rfl rfl) (fun _ _ _ _ h => h.1)) (noStop_all T) (hr.mono (by decide)) (by rfl) (T.free "list" rfl) rfl) (fun _ _ _ _ _ _ _ h1 h2 => VF.DatL.app h1 h2)) (va_cons (ve_listG (sp := sAll) (dds := [.int 4096]) hC (elinkR (cs := csN) hE) (pe_listG (pgen_call (g_all_words T) (hr.mono (by decide)) (by rfl) (T.glo "all_words" rfl) (F_all_words T).kp bA vA (va_cons (ve_var (pv 2)) (va_cons (ve_var (pv 1)) va_nil))) (passes_call (takes_of rfl rfl rfl rfl) (fun _ _ _ _ h => h.1)) (noStop_all T) (hr.mono (by decide)) (by rfl) (T.free "list" rfl) rfl) (fun _ _ _ => .cons (.int 4096) .nil)) va_nil)))))
  (vss_one (vs_ret (ps_ret (ve_call hC hE (pe_call (v__law_like T 5) (hr.mono (by decide)) (by rfl) (T.glo "_law_like" rfl) (F__law_like T).kp (B__law_like T) .nil (passes_call (takes_of rfl rfl rfl rfl) (fun _ _ _ _ h => h)) (va_cons (ve_var (pv 11)) (va_cons (ve_op op_rep d_repL (ve_lst (va_cons (ve_call hC hE (pe_call (v__law_listed T) (hr.mono (by decide)) (by rfl) (T.glo "_law_listed" rfl) (F__law_listed T).kp (B__law_listed T) .nil (passes_call (takes_of rfl rfl rfl rfl) (fun _ _ _ _ h => h)) (va_cons (ve_var (pv 1)) (va_cons (ve_var (pv 2)) va_nil))) (fun _ _ _ => .nil)) va_nil)) (ve_int pe_int)) va_nil))) (fun _ _ _ => .nil)))))))))))))))))))), ?_⟩)
  · rintro ds n Q E ⟨rfl, _⟩; rfl
  · obtain ⟨rfl, hn, hq⟩ := h
    walk_at "vin"
    walk_at "vy"
    refine y_draw (by omega) (by decide) (by decide) fun z1 z10 z11 => ?_
    walk_at "vy"
    refine y_draw (by omega) (by decide) (by decide) fun z2 z20 z21 => ?_
    walk_at "vy"
    refine y_draw (by omega) (by decide) (by decide) fun z3 z30 z31 => ?_
    walk_at "vy"
    refine y_of (by omega) (by simp) (by simp) fun j sd hj => ?_
    obtain ⟨s, rfl, s0, s1⟩ : ∃ s : Nat, sd = .int s ∧ 1 ≤ s ∧ s ≤ 64 := by
      have hm := List.mem_of_getElem? hj
      simp only [List.mem_cons, List.not_mem_nil, or_false] at hm
      rcases hm with rfl | rfl | rfl | rfl
      · exact ⟨(1 + z1).toNat, by rw [Int.toNat_of_nonneg (by omega)], by omega, by omega⟩
      · exact ⟨(1 + z2).toNat, by rw [Int.toNat_of_nonneg (by omega)], by omega, by omega⟩
      · exact ⟨(1 + z3).toNat, by rw [Int.toNat_of_nonneg (by omega)], by omega, by omega⟩
      · exact ⟨64, rfl, by decide, by decide⟩
    walk_at "vy"
    refine y_draw (by omega) (by decide) (by decide) fun z4 z40 z41 => ?_
    walk_at "vy"
    refine y_draw (by omega) (by decide) (by decide) fun z5 z50 z51 => ?_
    walk_at "vy"
    refine y_draw (by omega) (by decide) (by decide) fun z6 z60 z61 => ?_
    walk_at "vy"
    refine y_of (by omega) (by simp) (by simp) fun j kd hj => ?_
    obtain ⟨k, rfl, k1⟩ : ∃ k : Nat, kd = .int k ∧ k ≤ 99 := by
      have hm := List.mem_of_getElem? hj
      simp only [List.mem_cons, List.not_mem_nil, or_false] at hm
      rcases hm with rfl | rfl | rfl
      · exact ⟨z4.toNat, by rw [Int.toNat_of_nonneg z40], by omega⟩
      · exact ⟨z5.toNat, by rw [Int.toNat_of_nonneg z50], by omega⟩
      · exact ⟨z6.toNat, by rw [Int.toNat_of_nonneg z60], by omega⟩
    walk_at "vy"
    refine VF.y_lcI (fun i acc m => m = n + 8 + i ∧ ∃ xs : List Nat, acc = nD xs ∧ xs.length = i ∧ ∀ x ∈ xs, x < s) ⟨by omega, [], rfl, rfl, nofun⟩ (fun i d acc m hd hI => ?_) (fun acc m hI => ?_)
    · obtain ⟨hm, xs, rfl, hl, hx⟩ := hI
      obtain ⟨hi, rfl⟩ := rng_get hd
      rw [Int.toNat_natCast] at hi
      walk_at "vy"
      refine y_draw (by omega) (by omega) (by omega) fun x x0 x1 => ?_
      walk_at "vy"
      refine ⟨by rw [nD_len]; omega, by omega, xs ++ [x.toNat], ?_, by rw [List.length_append, hl]; rfl, fun y hy => ?_⟩
      · unfold nD
        rw [List.map_append, List.map_singleton, Int.toNat_of_nonneg x0]
      · rcases List.mem_append.mp hy with hy | hy
        · exact hx y hy
        · rw [List.mem_singleton.mp hy]
          omega
    obtain ⟨hm, xs, rfl, hl, hx⟩ := hI
    rw [rngD_len, Int.toNat_natCast] at hl hm
    walk_at "vy"
    refine VF.y_loop (fun i τ n' => n' = m ∧ ∃ o6, τ = [some (.d .bag), some (.d (.int s)), some (.d (.int k)), some (.d (.tup (nD xs))), some (.d (.int (s ^ i : Nat))), some (.d (.int (widx s (xs.drop (k - i)) : Nat))), o6, none, none, none, none, none]) ⟨rfl, none, by rw [Nat.sub_zero, ← hl, List.drop_length]; rfl⟩ ?_ ?_
    · rintro i d τ n' hd ⟨rfl, o6, rfl⟩
      obtain ⟨hi, rfl⟩ := rng_get hd
      rw [Int.toNat_natCast] at hi
      obtain ⟨x, hxx⟩ : ∃ x, xs[k - 1 - i]? = some x := ⟨_, List.getElem?_eq_getElem (by omega)⟩
      have hxs := hx x (List.mem_of_getElem? hxx)
      have hat : atI (nD xs) ((k : Int) - 1 - (0 + (i : Int))) = some (.int x) := by
        rw [show (k : Int) - 1 - (0 + (i : Int)) = ((k - 1 - i : Nat) : Int) by omega]
        exact nD_at hxx
      have hp : s ^ i < 2 ^ 600 := Nat.lt_of_le_of_lt (pow_bd s1 (show i ≤ 99 by omega)) (Nat.pow_lt_pow_right (by decide) (by decide))
      have e1 : ((widx s (xs.drop (k - i)) : Nat) : Int) + (x : Int) * ((s ^ i : Nat) : Int) = ((widx s (xs.drop (k - (i + 1))) : Nat) : Int) := by
        have := widx_drop (s := s) (xs := xs) (k := i) (x := x) (by rw [hl]; exact hxx) (by omega)
        rw [hl] at this
        rw [this, ← Int.natCast_mul, ← Int.natCast_add, Nat.add_comm]
      have e2 : ((s ^ i : Nat) : Int) * (s : Int) = ((s ^ (i + 1) : Nat) : Int) := by rw [Nat.pow_succ, Int.natCast_mul]
      walk_at "vy"
      refine VF.y_ixT hat ?_
      walk_at "vy"
      refine VF.y_I (wide_mul (a := 7) (b := 600) (by rw [Int.natAbs_natCast]; omega) (by rw [Int.natAbs_natCast]; exact hp) (by decide) (by decide) (by decide)) ?_
      walk_at "vy"
      refine VF.y_I (wide_mul (a := 600) (b := 7) (by rw [Int.natAbs_natCast]; exact hp) (by rw [Int.natAbs_natCast]; omega) (by decide) (by decide) (by decide)) ?_
      walk_at "vy"
      rw [e1, e2]
      exact ⟨rfl, _, rfl⟩
    rintro τ m' ⟨rfl, o6, rfl⟩
    rw [rngD_len, Int.toNat_natCast, Nat.sub_self, List.drop_zero]
    have hwl := widx_lt hx
    rw [hl] at hwl
    have edg : dg s k (widx s xs) = xs := by rw [← hl]; exact dg_widx hx
    walk_at "vy"
    refine y_widx s1 (by omega) hx ?_
    walk_at "vy"
    refine y_wordAt .int s0 s1 (by omega) (fun t et ht => ?_) (fun hb => ?_)
    rotate_left
    · have := numB_int0 hb
      omega
    have et : t = widx s xs := by injection et with et; omega
    rw [et, edg]
    walk_at "vy"
    refine y_wordAt .int s0 s1 (by omega) (fun t et ht => ?_) (fun hb => ?_)
    rotate_left
    · have := numB_int0 hb
      omega
    have et : t = widx s xs := by injection et with et; omega
    rw [et, edg]
    walk_at "vy"
    refine y_like (.lst (pz_c .int (pz_c ((pz_nD (by omega)).mono (by decide)) (pz_one ((pz_nD (by omega)).mono (by decide))))) (by simp)) ?_
    walk_at "vy"
    refine y_draw (by omega) (by decide) (by decide) fun z7 z70 z71 => ?_
    walk_at "vy"
    refine y_of (by omega) (by simp) (by simp) fun j odd0 hj => ?_
    obtain ⟨po0, go0⟩ : Pz 2 odd0 ∧ numB odd0 0 (((s ^ k : Nat) : Int) - 1) = false := by
      have hm := List.mem_of_getElem? hj
      simp only [List.mem_cons, List.not_mem_nil, or_false] at hm
      rcases hm with rfl | rfl | rfl | rfl | rfl | rfl | rfl
      all_goals first
        | exact ⟨.bl, rfl⟩
        | exact ⟨.non, rfl⟩
        | exact ⟨.str (by decide +kernel), rfl⟩
        | exact ⟨.tup (pz_one .int) (by decide), rfl⟩
        | exact ⟨.lst (pz_one .int) (by decide), rfl⟩
        | exact ⟨.int, numB_lo (by omega)⟩
    walk_at "vn"
    with_reducible refine y_cut (fun τ n' => n' ≤ m' + 4 ∧ ∃ odd, Pz 2 odd ∧ numB odd 0 (((s ^ k : Nat) : Int) - 1) = false ∧ τ = [some (.d .bag), some (.d (.int s)), some (.d (.int k)), some (.d (.tup (nD xs))), some (.d (.int (s ^ k : Nat))), some (.d (.int (widx s xs : Nat))), o6, some (.d (.int (widx s xs : Nat))), some (.d odd), none, none, none]) ?_ ?_
    rotate_left
    · intro R hR
      refine VF.y_set ?_
      refine VF.y_if ?_
      refine VF.y_and ?_
      refine VF.y_B ?_
      refine VF.y_op ?_
      refine ⟨_, rfl, ?_⟩
      refine VF.y_op ?_
      refine VF.y_c ?_
      refine VF.y_c ?_
      refine VF.y_I (cpow_of (by decide) (by decide) (by decide) (by decide)) ?_
      obtain ⟨B, hB⟩ : ∃ B : Int, (10 : Int) ^ Int.toNat 9 = B := ⟨_, rfl⟩
      rw [hB]
      refine VF.y_IB ?_
      refine ⟨_, rfl, ?_⟩
      refine BF.x_ite (fun hl => ?_) (fun hl => ?_)
      · walk_at "vy"
        refine y_draw (by omega) (by decide) (by decide) fun z9 z90 z91 => ?_
        walk_at "vy"
        refine BF.x_ite (fun h9 => ?_) (fun h9 => ?_)
        · walk_at "vy"
          exact hR _ _ ⟨by omega, _, .int, numB_hi (by omega), rfl⟩
        · walk_at "vy"
          exact hR _ _ ⟨by omega, _, po0, go0, rfl⟩
      · walk_at "vy"
        exact hR _ _ ⟨by omega, _, po0, go0, rfl⟩
    rintro τ n3 ⟨hn3, odd, po, go, rfl⟩
    walk_at "vy"
    refine y_ask2 (r := .num odd) (fun F E1 ho => ?_) ?_
    · dsimp only [VF.hideO, List.map]
      walk_at "vy"
      exact y_wordAt (po.1.mono (by decide)) s0 s1 (by omega) (fun t et ht => by
        subst et
        have := numB_int0 go
        omega) fun _ => ho
    dsimp only [aresV]
    walk_at "vy"
    refine y_like (.lst (pz_c (.str (by decide +kernel)) (pz_c (.str (by decide +kernel)) (pz_one (po.mono (by decide))))) (by simp)) ?_
    walk_at "vy"
    refine y_draw (by omega) (by decide) (by decide) fun z8 z80 z81 => ?_
    walk_at "vy"
    refine y_of (by omega) (by simp) (by simp) fun j capd hj => ?_
    obtain ⟨cap, rfl⟩ : ∃ cap : Int, capd = .int cap := by
      have hm := List.mem_of_getElem? hj
      simp only [List.mem_cons, List.not_mem_nil, or_false] at hm
      rcases hm with rfl | rfl | rfl | rfl
      all_goals exact ⟨_, rfl⟩
    have pref : Pz 2 (.lst [.str "TooMany", .str "TooMany", .str "words", .int (s ^ k : Nat)]) := .lst (pz_c (.str (by decide +kernel)) (pz_c (.str (by decide +kernel)) (pz_c (.str (by decide +kernel)) (pz_one .int)))) (by simp)
    walk_at "vy"
    refine BF.x_ite (fun hc => ?_) (fun hc => ?_)
    · walk_at "vy"
      refine y_ask2 (r := .many (.str "words") (.int (s ^ k : Nat))) (fun F E1 ho => ?_) ?_
      · dsimp only [VF.hideO, List.map]
        walk_at "vy"
        refine ⟨rfl, ?_⟩
        walk_at "vy"
        refine ⟨rfl, ?_⟩
        exact y_allP k1 s0 s1 (fun _ => ⟨by decide, ho⟩) fun h => by omega
      dsimp only [aresV]
      walk_at "vy"
      refine y_like (pref.mono (by decide)) ?_
      walk_at "vy"
      exact hq _ (by omega)
    walk_at "vy"
    refine BF.x_ite (fun h3 => ?_) (fun h3 => ?_)
    · walk_at "vy"
      refine BF.x_ite (fun h4 => ?_) (fun h4 => ?_)
      · exact hq _ (by omega)
      · walk_at "vy"
        refine y_ask2 (r := .many (.str "words") (.int (s ^ k : Nat))) (fun F E1 ho => ?_) ?_
        · dsimp only [VF.hideO, List.map]
          walk_at "vy"
          exact y_allP k1 s0 s1 (fun _ => ⟨by decide, ho⟩) fun h => by omega
        dsimp only [aresV]
        walk_at "vy"
        refine y_like (pref.mono (by decide)) ?_
        walk_at "vy"
        exact hq _ (by omega)
    have le3 : s ^ k ≤ 300 := by omega
    have pwl : Pz 2 (.lst (wlD s k)) := by
      refine .lst (fun d hd => ?_) ?_
      · obtain ⟨w, hw, rfl⟩ := List.mem_map.mp hd
        obtain ⟨t, _, rfl⟩ := List.mem_map.mp hw
        exact pz_nD (by rw [dg_len]; omega)
      · unfold wlD
        rw [List.length_map, wl_len]
        omega
    walk_at "vy"
    refine ⟨rfl, ?_⟩
    walk_at "vy"
    refine ⟨rfl, ?_⟩
    refine y_allP k1 s0 s1 (fun h => by omega) fun h => ⟨by omega, ?_⟩
    walk_at "vy"
    refine y_allP k1 s0 s1 (fun h => by omega) fun h => ⟨by omega, ?_⟩
    walk_at "vy"
    refine y_listed s0 s1 (by omega) le3 ?_
    walk_at "vy"
    refine VF.y_repL (by decide) (by decide) (by simp) ?_
    walk_at "vy"
    refine y_like (d := .lst [.lst (wlD s k), .lst (wlD s k)]) (.lst (pz_c (pwl.mono (by decide)) (pz_one (pwl.mono (by decide)))) (by simp)) ?_
    walk_at "vy"
    exact hq _ (by omega)
theorem y_words {n : Int} {Q : VF.DV → Int → Prop} {E : XV} (h : n ≤ 600000) (q : ∀ n', n' ≤ n + 300 → Q (.bl true) n') : sWords ([.bag] ++ []) n Q E := ⟨rfl, h, q⟩
end
end BF
/-! ## Refused words -/
namespace BF
open PySem PySem.Spec PyProof.Rows L2 VF
def sRefW : DSp := fun ds n Q _ => ds = [.bag] ∧ n ≤ 600000 ∧ ∀ n', n' ≤ n + 10 → Q (.bl true) n'
theorem y_all1 {x y : VF.DV} {c n : Int} {Q : List VF.DV → Int → Prop} {E : XV} (px : Pl 8 x) (py : Pl 8 y) (hx : numB x 0 99 = false) (he : E "InvalidNumber" nsN (invN x) n) : sAll [x, y, .int c] n Q E := by
  refine ⟨x, y, c, rfl, px, py, fun _ => he, fun h => ?_, fun k s e _ hk _ _ => ?_⟩
  · rw [hx] at h; cases h
  · subst e
    have := numB_int0 hx
    omega
theorem y_all2 {x y : VF.DV} {c n : Int} {Q : List VF.DV → Int → Prop} {E : XV} (px : Pl 8 x) (py : Pl 8 y) (hx : numB x 0 99 = true) (hy : numB y 1 64 = false) (he : E "InvalidNumber" nsN (invN y) n) : sAll [x, y, .int c] n Q E := by
  refine ⟨x, y, c, rfl, px, py, fun h => ?_, fun _ _ => he, fun k s _ e _ h1 h2 => ?_⟩
  · rw [hx] at h; cases h
  · subst e
    have := numB_int0 hy
    omega
section
variable {P : Program} {w : World} {K : PySem.W.Frag} {mg : Str → Option Value} {base : Heap}
theorem sc__law_refused_words : FnScope ["_law_bag_here", "_law_odds", "_law_bad", "_law_worse", "_law_asks", "_law_size", "_law_odd"] ["_law_bag_here"] (defScope s__law_refused_words) := ⟨rfl, rfl, rfl, by decide +kernel, rfl, by decide +kernel, by decide +kernel⟩
theorem v__law_refused_words (T : TT K mg) (hTB : ∀ p ∈ tf, LamX.TabB base mg (He.cT K p).1 (He.cT K p).2) : FnOk P w K mg base (L2.CX P w) 14 (He.ga K "_law_refused_words") (fdOf K ("_law_refused_words", none)) ["_law_bag_here"] (liftSp K (Cs K) sRefW) := by
  obtain ⟨oc, od, dV, kV, doc, pm, an, cdv', ct, osl, hfd, lkT, hcT, _, _⟩ := (F__law_ask T).ex
  have bT := B__law_ask T
  rw [hfd] at bT lkT
  obtain ⟨hmT, huT⟩ := tab_only T "_law_refused_words" (by simp)
  obtain ⟨dsA, vA, bA⟩ := B_all T
  refine v_okL (p := ("_law_refused_words", none)) (F__law_refused_words T) sc__law_refused_words (by decide) (by decide) ?_ (fun A outer s H W ds n Q' hC hE hr h => ⟨_, (vss_cons (vs_set (ps_set (i := 1) sc__law_refused_words.nd rfl (Or.inl rfl) (ve_lst (va_cons (ve_bl pe_bl) (va_cons (ve_bl pe_bl) (va_cons (ve_non pe_non) (va_cons (ve_str pe_str) (va_cons (ve_tup (va_cons (ve_int pe_int) va_nil)) (va_cons (ve_lst (va_cons (ve_int pe_int) va_nil)) (va_cons (ve_op op_sub d_I0 (ve_int pe_int) (ve_int pe_int)) (va_cons (ve_op op_sub d_I0 (ve_op op_sub d_I0 (ve_int pe_int) (ve_int pe_int)) (ve_call hC hE (pe_call (v__law_draw T) (hr.mono (by decide)) (by rfl) (T.glo "_law_draw" rfl) (F__law_draw T).kp (B__law_draw T) .nil pass0 (va_cons (ve_var (pv 0)) (va_cons (ve_int pe_int) va_nil))) (fun _ _ _ => .nil))) va_nil)))))))))))
  (vss_cons (vs_asg (ps_asg (ve_tup (va_cons (ve_call hC hE (pe_call (v__law_of T) (hr.mono (by decide)) (by rfl) (T.glo "_law_of" rfl) (F__law_of T).kp (B__law_of T) .nil (passes_call (takes_of rfl rfl rfl rfl) (fun _ _ _ _ h => h)) (va_cons (ve_var (pv 0)) (va_cons (ve_op (op_addD K) d_add (ve_var (pv 1)) (ve_lst (va_cons (ve_int pe_int) va_nil))) va_nil))) (fun _ _ _ => .nil)) (va_cons (ve_call hC hE (pe_call (v__law_of T) (hr.mono (by decide)) (by rfl) (T.glo "_law_of" rfl) (F__law_of T).kp (B__law_of T) .nil (passes_call (takes_of rfl rfl rfl rfl) (fun _ _ _ _ h => h)) (va_cons (ve_var (pv 0)) (va_cons (ve_op (op_addD K) d_add (ve_var (pv 1)) (ve_lst (va_cons (ve_int pe_int) (va_cons (ve_int pe_int) va_nil)))) va_nil))) (fun _ _ _ => .nil)) va_nil))) (vg_tup (m := 2) rfl rfl (vgs_cons (vg_name (pg_name (i := 2) sc__law_refused_words.nd rfl (Or.inr rfl))) (vgs_cons (vg_name (pg_name (i := 3) sc__law_refused_words.nd rfl (Or.inr rfl))) vgs_nil)))))
  (vss_cons (vs_setO (ps_set (i := 4) sc__law_refused_words.nd rfl (Or.inl rfl) (vo_lst (va_cons (ve_ask hC (LamX.pe_lamcall (k := 8) (T := tabs K) (by rfl) (T.glo "_law_ask" rfl) (F__law_ask T).kp lkT hcT bT sc__law_ask rfl (Or.inl rfl) (ask_gives T (hr.mono (by decide))) (hTB _ (by decide)) rfl hmT huT (hr.mono (by decide)) (LamX.lamS_by (sc := defScope s__law_refused_words) (by decide +kernel)) rfl (fun _ _ _ _ _ => rfl) (fun A outer s H E f c' hr => ve_lambody2 fun W E1 hC hE => (ve_listG (sp := sAll) (dds := [.int 4096]) hC (elinkR (cs := csN) hE) (pe_listG (pgen_call (g_all_words T) (hr.mono (by decide)) (by rfl) (T.glo "all_words" rfl) (F_all_words T).kp bA vA (va_cons (ve_var (pv 2)) (va_cons (ve_var (pv 3)) va_nil))) (passes_call (takes_of rfl rfl rfl rfl) (fun _ _ _ _ h => h.1)) (noStop_all T) (hr.mono (by decide)) (by rfl) (T.free "list" rfl) rfl) (fun _ _ _ => .cons (.int 4096) .nil))))) (va_cons (ve_ask hC (LamD.pe_lamcallD (k := 8) (T := tabs K) (by rfl) (T.glo "_law_ask" rfl) (F__law_ask T).kp lkT hcT bT sc__law_ask rfl (Or.inl rfl) (ask_gives T (hr.mono (by decide))) (hTB _ (by decide)) rfl hmT huT (hr.mono (by decide)) (LamD.lamS1_by (sc := defScope s__law_refused_words) (by decide +kernel)) rfl pe_int (fun _ _ _ _ _ _ => ⟨_, rfl, fun _ => rfl⟩) (fun A outer s H E f c' hr => ve_lambody2 fun W E1 hC hE => (ve_listG1 (n0 := 2) (m := 1) (sp := sAll) (gd := apd) hC (elinkR (cs := csN) hE) (pe_listG (pgen_callN (g_all_words T) (hr.mono (by decide)) (by rfl) (T.glo "all_words" rfl) (F_all_words T).kp (kb_all T) (va_cons (ve_var (pv 2)) (va_cons (ve_int pe_int) va_nil)) (vk_cons (ve_int pe_int) vk_nil)) (passes_call (takes_of rfl rfl rfl rfl) (fun _ _ _ _ h => h.1)) (noStop_all T) (hr.mono (by decide)) (by rfl) (T.free "list" rfl) rfl) (fun _ _ _ _ _ _ _ h1 h2 => VF.DatL.app h1 h2))))) va_nil)))))
  (vss_cons (vs_set (ps_set (i := 5) sc__law_refused_words.nd rfl (Or.inr rfl) (ve_call hC hE (pe_call (v__law_draw T) (hr.mono (by decide)) (by rfl) (T.glo "_law_draw" rfl) (F__law_draw T).kp (B__law_draw T) .nil pass0 (va_cons (ve_var (pv 0)) (va_cons (ve_int pe_int) va_nil))) (fun _ _ _ => .nil))))
  (vss_cons (vs_app (ps_expr (pe_bm PySem.F.plainAttrs_list PySem.F.slot_list_append PySem.F.type_list_append mt_append (pv 4) (va_cons (ve_ask hC (LamX.pe_lamcall (k := 8) (T := tabs K) (by rfl) (T.glo "_law_ask" rfl) (F__law_ask T).kp lkT hcT bT sc__law_ask rfl (Or.inl rfl) (ask_gives T (hr.mono (by decide))) (hTB _ (by decide)) rfl hmT huT (hr.mono (by decide)) (LamX.lamS_by (sc := defScope s__law_refused_words) (by decide +kernel)) rfl (fun _ _ _ _ _ => rfl) (fun A outer s H E f c' hr => ve_lambody2 fun W E1 hC hE => (ve_listG1 (n0 := 2) (m := 1) (sp := sAll) (gd := apd) hC (elinkR (cs := csN) hE) (pe_listG (pgen_callN (g_all_words T) (hr.mono (by decide)) (by rfl) (T.glo "all_words" rfl) (F_all_words T).kp (kb_all T) (va_cons (ve_var (pv 5)) (va_cons (ve_var (pv 3)) va_nil)) (vk_cons (ve_int pe_int) vk_nil)) (passes_call (takes_of rfl rfl rfl rfl) (fun _ _ _ _ h => h.1)) (noStop_all T) (hr.mono (by decide)) (by rfl) (T.free "list" rfl) rfl) (fun _ _ _ _ _ _ _ h1 h2 => VF.DatL.app h1 h2))))) va_nil))))
  (vss_one (vs_ret (ps_ret (ve_call hC hE (pe_call (v__law_like T 5) (hr.mono (by decide)) (by rfl) (T.glo "_law_like" rfl) (F__law_like T).kp (B__law_like T) .nil (passes_call (takes_of rfl rfl rfl rfl) (fun _ _ _ _ h => h)) (va_cons (ve_var (pv 4)) (va_cons (ve_ofO (vo_lc (pe_lc (own := [("_law_odd", 6)]) rfl sc__law_refused_words.nd (vi_list rfl (ve_lst (va_cons (ve_var (pv 2)) (va_cons (ve_var (pv 2)) (va_cons (ve_var (pv 3)) va_nil))))) (blkOk_by (N := ["_law_bag_here", "_law_odds", "_law_bad", "_law_worse", "_law_asks", "_law_size", "_law_odd"]) (sc := defScope s__law_refused_words) (by decide +kernel)) (fun _ _ _ _ _ => (vg_name (pg_name (i := 6) sc__law_refused_words.nd rfl (Or.inl rfl)))) (fun _ _ _ _ _ => vts_nil) (fun _ _ _ _ _ => (ve_lst (va_cons (ve_str pe_str) (va_cons (ve_str pe_str) (va_cons (ve_var (pv 6)) va_nil)))))))) va_nil))) (fun _ _ _ => .nil)))))))))), ?_⟩)
  · rintro ds n Q E ⟨rfl, _⟩; rfl
  · obtain ⟨rfl, hn, hq⟩ := h
    walk_at "vin"
    walk_at "vy"
    refine y_draw (by omega) (by decide) (by decide) fun z z0 z1 => ?_
    walk_at "vy"
    refine VF.y_addL (by simp) ?_
    walk_at "vy"
    refine y_of (by omega) (by simp) (by simp) fun j bad hj => ?_
    obtain ⟨pb, gb⟩ : Pz 2 bad ∧ numB bad 0 99 = false := by
      have hm := List.mem_of_getElem? hj
      simp only [List.mem_cons, List.mem_append, List.not_mem_nil, or_false] at hm
      rcases hm with (rfl | rfl | rfl | rfl | rfl | rfl | rfl | rfl) | rfl
      all_goals first
        | exact ⟨.bl, rfl⟩
        | exact ⟨.non, rfl⟩
        | exact ⟨.str (by decide +kernel), rfl⟩
        | exact ⟨.tup (pz_one .int) (by decide), rfl⟩
        | exact ⟨.lst (pz_one .int) (by decide), rfl⟩
        | exact ⟨.int, by decide⟩
        | exact ⟨.int, numB_lo (by omega)⟩
    walk_at "vy"
    refine VF.y_addL (by simp) ?_
    walk_at "vy"
    refine y_of (by omega) (by simp) (by simp) fun j worse hj => ?_
    obtain ⟨pw, gw⟩ : Pz 2 worse ∧ numB worse 1 64 = false := by
      have hm := List.mem_of_getElem? hj
      simp only [List.mem_cons, List.mem_append, List.not_mem_nil, or_false] at hm
      rcases hm with (rfl | rfl | rfl | rfl | rfl | rfl | rfl | rfl) | rfl | rfl
      all_goals first
        | exact ⟨.bl, rfl⟩
        | exact ⟨.non, rfl⟩
        | exact ⟨.str (by decide +kernel), rfl⟩
        | exact ⟨.tup (pz_one .int) (by decide), rfl⟩
        | exact ⟨.lst (pz_one .int) (by decide), rfl⟩
        | exact ⟨.int, by decide⟩
        | exact ⟨.int, numB_lo (by omega)⟩
    have pb8 : Pl 8 bad := pb.1.mono (by decide)
    have pw8 : Pl 8 worse := pw.1.mono (by decide)
    walk_at "vy"
    refine y_ask2 (r := .num bad) (fun F E1 ho => ?_) ?_
    · dsimp only [VF.hideO, List.map]
      walk_at "vy"
      exact y_all1 pb8 pw8 gb ⟨by decide, ho⟩
    dsimp only [aresV]
    walk_at "vy"
    refine y_ask2 (r := .num bad) (fun F E1 ho => ?_) ?_
    · dsimp only [VF.hideO, List.map]
      walk_at "vy"
      refine ⟨rfl, ?_⟩
      walk_at "vy"
      refine ⟨rfl, ?_⟩
      exact y_all1 pb8 .int gb ⟨by decide, ho⟩
    dsimp only [aresV]
    walk_at "vy"
    refine y_draw (by omega) (by decide) (by decide) fun k k0 k1 => ?_
    have gk : numB (.int k) 0 99 = true := by
      show (decide _ && decide _) = true
      rw [decide_eq_true k0, decide_eq_true (by omega)]
      rfl
    walk_at "vy"
    refine y_ask2 (r := .num worse) (fun F E1 ho => ?_) ?_
    · dsimp only [VF.hideO, List.map]
      walk_at "vy"
      refine ⟨rfl, ?_⟩
      walk_at "vy"
      refine ⟨rfl, ?_⟩
      exact y_all2 .int pw8 gk gw ⟨by decide, ho⟩
    dsimp only [aresV]
    walk_at "vy"
    refine ⟨_, _, rfl, rfl, by simp, ?_⟩
    walk_at "vy"
    refine VF.y_lcA [bad, bad, worse] id (fun d => .lst [.str "InvalidNumber", .str "InvalidNumber", d]) rfl (by simp) (fun j x acc R hj hacc hR => ?_) ?_
    · walk_at "vy"
      exact hR
    walk_at "vy"
    have pl : ∀ {x}, Pz 2 x → Pz 3 (.lst [.str "InvalidNumber", .str "InvalidNumber", x]) := fun h => .lst (pz_c (.str (by decide +kernel)) (pz_c (.str (by decide +kernel)) (pz_one h))) (by simp)
    refine y_like (Pz.mono (k := 4) (.lst (pz_c (pl pb) (pz_c (pl pb) (pz_one (pl pw)))) (by simp)) (by decide)) ?_
    walk_at "vy"
    exact hq _ (by omega)
theorem y_refW {n : Int} {Q : VF.DV → Int → Prop} {E : XV} (h : n ≤ 600000) (q : ∀ n', n' ≤ n + 10 → Q (.bl true) n') : sRefW ([.bag] ++ []) n Q E := ⟨rfl, h, q⟩
end
end BF
/-! ## What is a number, what is a word -/
namespace BF
open PySem PySem.Spec PyProof.Rows L2 VF
theorem FnOk.or {P : Program} {w : World} {K : PySem.W.Frag} {mg : Str → Option Value} {base : Heap} {CX : CXT} {k : Nat} {f : Addr} {fd : FuncData} {ps : List Str} {Cs : Cf → Prop} {sp sp' : DSp}
    (F : FnOk P w K mg base CX k f fd ps (liftSp K Cs sp)) (G : FnOk P w K mg base CX k f fd ps (liftSp K Cs sp')) : FnOk P w K mg base CX k f fd ps (liftSp K Cs fun ds n Q E => sp ds n Q E ∨ sp' ds n Q E) := by
  have two : ∀ vs H Q E, liftSp K Cs (fun ds n Q E => sp ds n Q E ∨ sp' ds n Q E) vs H Q E → liftSp K Cs sp vs H Q E ∨ liftSp K Cs sp' vs H Q E := fun vs H Q E ⟨C, M, n, ds, Q', E', h1, h2, h3, h4, h5, h6, h7, h8⟩ => by
    rcases h7 with h7 | h7
    · exact .inl ⟨C, M, n, ds, Q', E', h1, h2, h3, h4, h5, h6, h7, h8⟩
    · exact .inr ⟨C, M, n, ds, Q', E', h1, h2, h3, h4, h5, h6, h7, h8⟩
  exact ⟨fun vs H Q E q => (two _ _ _ _ q).elim (F.len vs H Q E) (G.len vs H Q E), fun A outer s H args us vs Q E hr he hb hv hs => (two _ _ _ _ hs).elim (F.run A outer s H args us vs Q E hr he hb hv) (G.run A outer s H args us vs Q E hr he hb hv)⟩
theorem num_notin {i lo hi : Int} (hle : lo ≤ hi) (h : i = lo - 1 ∨ i = hi + 1 ∨ (lo ≤ i ∧ i ≤ hi)) : numB (.int i) lo hi = !([lo - 1, hi + 1].contains i) := by
  rcases h with rfl | rfl | ⟨h1, h2⟩
  · rw [numB_lo (by omega)]
    simp
  · rw [numB_hi (by omega)]
    simp
  · rw [numB_in h1 h2]
    have a : (i == lo - 1) = false := by rw [beq_eq_false_iff_ne]; omega
    have b : (i == hi + 1) = false := by rw [beq_eq_false_iff_ne]; omega
    simp [List.contains, List.elem, a, b]
theorem sign_lo {i e : Int} (h : i < 0) : signB e (.int i) = false := by
  show (decide (0 ≤ i) && decide (i < e)) = false
  rw [decide_eq_false (show ¬ 0 ≤ i by omega)]
  rfl
theorem sign_hi {i e : Int} (h : e ≤ i) : signB e (.int i) = false := by
  show (decide (0 ≤ i) && decide (i < e)) = false
  rw [decide_eq_false (show ¬ i < e by omega), Bool.and_false]
theorem sign_in {i e : Int} (h : 0 ≤ i) (h2 : i < e) : signB e (.int i) = true := by
  show (decide (0 ≤ i) && decide (i < e)) = true
  rw [decide_eq_true h, decide_eq_true h2]
  rfl
theorem word_nD {xs : List Nat} {e : Int} (h : ∀ x ∈ xs, (x : Int) < e) : wordB (.tup (nD xs)) e = true := List.all_eq_true.mpr fun d hd => by
  obtain ⟨x, hx, rfl⟩ := List.mem_map.mp hd
  exact sign_in (by omega) (h x hx)
theorem word_bad {ds : List VF.DV} {d : VF.DV} {e : Int} (hm : d ∈ ds) (h : signB e d = false) : wordB (.tup ds) e = false := List.all_eq_false.mpr ⟨d, hm, by rw [h]; decide⟩
theorem nD_iD {xs : List Nat} : nD xs = VF.iD (xs.map fun (x : Nat) => (x : Int)) := by
  unfold nD VF.iD
  rw [List.map_map]
  rfl
theorem cut_mem {xs : List Nat} {l u : Option Int} {d : VF.DV} (h : d ∈ VF.cutD (nD xs) l u) : ∃ i : Int, d = .int i := by
  have h2 := List.mem_of_mem_drop (List.mem_of_mem_take h)
  obtain ⟨x, _, rfl⟩ := List.mem_map.mp h2
  exact ⟨_, rfl⟩
theorem cut_len {xs : List VF.DV} {l u : Option Int} : (VF.cutD xs l u).length ≤ xs.length := by
  unfold VF.cutD
  rw [List.length_take, List.length_drop]
  omega
def sStrW : DSp := fun ds n Q _ => ∃ (z : Str) (s : Int), ds = [.str z, .int s] ∧ Q (.bl false) n
def sIsWordX : DSp := fun ds n Q E => sIsWord ds n Q E ∨ sStrW ds n Q E
def sJudged : DSp := fun ds n Q _ => ds = [.bag] ∧ n ≤ 600000 ∧ ∀ n', n' ≤ n + 30 → Q (.bl true) n'
section
variable {P : Program} {w : World} {K : PySem.W.Frag} {mg : Str → Option Value} {base : Heap}
theorem v_is_wordS (T : TT K mg) : FnOk P w K mg base (L2.CX P w) 1 (He.ga K "is_word") (fdOf K ("is_word", none)) ["value", "signs"] (liftSp K (Cs K) sStrW) := by
  refine v_ok (F_is_word T) sc_is_word (by decide) (by decide) ?_ (fun cdv A outer s H W ds n Q' hC hE hr h => ⟨_, (vss_cons (vs_if (vt_not (vt_val (ve_cb (pe_callB (call_isiK' K) (by rfl) (T.free "isinstance" rfl) boot_isinstance (va_cons (ve_var (pv 0)) (va_cons (ve_ty (pe_bltn (v := .ty "tuple") (by rfl) (T.free "tuple" rfl) boot_tuple rfl)) va_nil))) d_isi))) (vss_one (vs_ret (ps_ret (ve_bl pe_bl)))) vss_nil)
  (vss_cons (vs_set (ps_set (i := 2) sc_is_word.nd rfl (Or.inl rfl) (ve_cb (pe_callB (call_min2 rfl) (by rfl) (T.free "min" rfl) boot_min (va_cons (ve_var (pv 1)) (va_cons (ve_gint (by rfl) (T.int "MOST_SIGNS" 64 rfl)) va_nil))) d_min2)))
  (vss_cons (vs_for (passes_of rfl) rfl (vi_tup rfl (ve_var (pv 0))) (vg_name (pg_name (i := 3) sc_is_word.nd rfl (Or.inl rfl))) (vss_one (vs_if (PW.pt (vw_or (vt_not (vt_val (ve_cb (pe_callB (call_isiK' K) (by rfl) (T.free "isinstance" rfl) boot_isinstance (va_cons (ve_var (pv 3)) (va_cons (ve_ty (pe_bltn (v := .ty "int") (by rfl) (T.free "int" rfl) boot_int rfl)) va_nil))) d_isi))) (vw_or (vt_val (ve_cb (pe_callB (call_isiK' K) (by rfl) (T.free "isinstance" rfl) boot_isinstance (va_cons (ve_var (pv 3)) (va_cons (ve_ty (pe_bltn (v := .ty "bool") (by rfl) (T.free "bool" rfl) boot_bool rfl)) va_nil))) d_isi)) (vw_or1 (vt_not (vt_chain op_le op_lt d_IB d_IB (ve_int pe_int) (ve_var (pv 3)) (ve_var (pv 2)))))))) (vss_one (vs_ret (ps_ret (ve_bl pe_bl)))) vss_nil)))
  (vss_one (vs_ret (ps_ret (ve_bl pe_bl))))))), ?_⟩)
  · rintro ds n Q E ⟨z, s, rfl, _⟩; rfl
  · obtain ⟨z, s, rfl, hq⟩ := h
    walk_at "vin"
    walk_at "vx"
    exact hq
theorem v_is_wordX (T : TT K mg) : FnOk P w K mg base (L2.CX P w) 1 (He.ga K "is_word") (fdOf K ("is_word", none)) ["value", "signs"] (liftSp K (Cs K) sIsWordX) := FnOk.or (v_is_word T) (v_is_wordS T)
theorem sc__law_judged : FnScope ["_law_bag_here", "_law_low", "_law_high", "_law_many", "_law_word", "_law_spot", "_law_odd", "_law_item", "_law_k"] ["_law_bag_here"] (defScope s__law_judged) := ⟨rfl, rfl, rfl, by decide +kernel, rfl, by decide +kernel, by decide +kernel⟩
theorem v__law_judged (T : TT K mg) : FnOk P w K mg base (L2.CX P w) 12 (He.ga K "_law_judged") (fdOf K ("_law_judged", none)) ["_law_bag_here"] (liftSp K (Cs K) sJudged) := by
  refine v_ok (F__law_judged T) sc__law_judged (by decide) (by decide) ?_ (fun cdv A outer s H W ds n Q' hC hE hr h => ⟨_, (vss_cons (vs_set (ps_set (i := 1) sc__law_judged.nd rfl (Or.inl rfl) (ve_op op_sub d_I0 (ve_call hC hE (pe_call (v__law_draw T) (hr.mono (by decide)) (by rfl) (T.glo "_law_draw" rfl) (F__law_draw T).kp (B__law_draw T) .nil pass0 (va_cons (ve_var (pv 0)) (va_cons (ve_int pe_int) va_nil))) (fun _ _ _ => .nil)) (ve_int pe_int))))
  (vss_cons (vs_set (ps_set (i := 2) sc__law_judged.nd rfl (Or.inl rfl) (ve_op (op_addD K) d_add (ve_var (pv 1)) (ve_call hC hE (pe_call (v__law_of T) (hr.mono (by decide)) (by rfl) (T.glo "_law_of" rfl) (F__law_of T).kp (B__law_of T) .nil (passes_call (takes_of rfl rfl rfl rfl) (fun _ _ _ _ h => h)) (va_cons (ve_var (pv 0)) (va_cons (ve_lst (va_cons (ve_int pe_int) (va_cons (ve_int pe_int) (va_cons (ve_call hC hE (pe_call (v__law_draw T) (hr.mono (by decide)) (by rfl) (T.glo "_law_draw" rfl) (F__law_draw T).kp (B__law_draw T) .nil pass0 (va_cons (ve_var (pv 0)) (va_cons (ve_int pe_int) va_nil))) (fun _ _ _ => .nil)) (va_cons (ve_call hC hE (pe_call (v__law_draw T) (hr.mono (by decide)) (by rfl) (T.glo "_law_draw" rfl) (F__law_draw T).kp (B__law_draw T) .nil pass0 (va_cons (ve_var (pv 0)) (va_cons (ve_int pe_int) va_nil))) (fun _ _ _ => .nil)) va_nil))))) va_nil))) (fun _ _ _ => .nil)))))
  (vss_cons (vs_set (ps_set (i := 3) sc__law_judged.nd rfl (Or.inr rfl) (ve_op (op_addD K) d_add (ve_int pe_int) (ve_call hC hE (pe_call (v__law_draw T) (hr.mono (by decide)) (by rfl) (T.glo "_law_draw" rfl) (F__law_draw T).kp (B__law_draw T) .nil pass0 (va_cons (ve_var (pv 0)) (va_cons (ve_int pe_int) va_nil))) (fun _ _ _ => .nil)))))
  (vss_cons (vs_set (ps_set (i := 4) sc__law_judged.nd rfl (Or.inl rfl) (ve_cb (pe_callTy (call_tupLTK K) (by rfl) (T.free "tuple" rfl) boot_tuple (va_cons (ve_ofO (vo_lc (pe_lc (own := [("_law_k", 8)]) rfl sc__law_judged.nd (vi_rng1 (pi_range1 (by rfl) (T.free "range" rfl) (va_cons (ve_call hC hE (pe_call (v__law_draw T) (hr.mono (by decide)) (by rfl) (T.glo "_law_draw" rfl) (F__law_draw T).kp (B__law_draw T) .nil pass0 (va_cons (ve_var (pv 0)) (va_cons (ve_int pe_int) va_nil))) (fun _ _ _ => .nil)) va_nil))) (blkOk_by (N := ["_law_bag_here", "_law_low", "_law_high", "_law_many", "_law_word", "_law_spot", "_law_odd", "_law_item", "_law_k"]) (sc := defScope s__law_judged) (by decide +kernel)) (fun _ _ _ _ _ => (vg_name (pg_name (i := 8) sc__law_judged.nd rfl (Or.inl rfl)))) (fun _ _ _ _ _ => vts_nil) (fun _ _ _ _ _ => (ve_call hC elink0 (pe_call (v__law_draw T) (hr.mono (by decide)) (by rfl) (T.glo "_law_draw" rfl) (F__law_draw T).kp (B__law_draw T) .nil pass0 (va_cons (ve_var (pv 0)) (va_cons (ve_var (pv 3)) va_nil))) (fun _ _ _ => .nil)))))) va_nil)) d_tuple)))
  (vss_cons (vs_par (ps_par (i := 5) (j := 6) rfl sc__law_judged.nd rfl rfl (by decide) rfl rfl (va_cons (ve_call hC hE (pe_call (v__law_draw T) (hr.mono (by decide)) (by rfl) (T.glo "_law_draw" rfl) (F__law_draw T).kp (B__law_draw T) .nil pass0 (va_cons (ve_var (pv 0)) (va_cons (ve_op (op_addD K) d_add (ve_cb (pe_callB (call_lenK K) (by rfl) (T.free "len" rfl) boot_len (va_cons (ve_var (pv 4)) va_nil)) d_len) (ve_int pe_int)) va_nil))) (fun _ _ _ => .nil)) (va_cons (ve_call hC hE (pe_call (v__law_of T) (hr.mono (by decide)) (by rfl) (T.glo "_law_of" rfl) (F__law_of T).kp (B__law_of T) .nil (passes_call (takes_of rfl rfl rfl rfl) (fun _ _ _ _ h => h)) (va_cons (ve_var (pv 0)) (va_cons (ve_lst (va_cons (ve_var (pv 3)) (va_cons (ve_op op_sub d_I0 (ve_int pe_int) (ve_int pe_int)) (va_cons (ve_bl pe_bl) (va_cons (ve_non pe_non) (va_cons (ve_str pe_str) (va_cons (ve_tup (va_cons (ve_int pe_int) va_nil)) (va_cons (ve_lst va_nil) (va_cons (ve_bl pe_bl) (va_cons (ve_op (op_addD K) d_add (ve_var (pv 3)) (ve_int pe_int)) va_nil)))))))))) va_nil))) (fun _ _ _ => .nil)) va_nil)) rfl))
  (vss_cons (vs_for (passes_of rfl) rfl (vi_list rfl (ve_lst (va_cons (ve_var (pv 1)) (va_cons (ve_var (pv 2)) (va_cons (ve_op op_sub d_I0 (ve_var (pv 1)) (ve_int pe_int)) (va_cons (ve_op (op_addD K) d_add (ve_var (pv 2)) (ve_int pe_int)) (va_cons (ve_op (op_addD K) d_add (ve_var (pv 1)) (ve_call hC hE (pe_call (v__law_draw T) (hr.mono (by decide)) (by rfl) (T.glo "_law_draw" rfl) (F__law_draw T).kp (B__law_draw T) .nil pass0 (va_cons (ve_var (pv 0)) (va_cons (ve_op (op_addD K) d_add (ve_op op_sub d_I0 (ve_var (pv 2)) (ve_var (pv 1))) (ve_int pe_int)) va_nil))) (fun _ _ _ => .nil))) va_nil))))))) (vg_name (pg_name (i := 7) sc__law_judged.nd rfl (Or.inl rfl))) (vss_one (vs_if (vt_not (vt_val (ve_call hC hE (pe_call (v__law_like T 4) (hr.mono (by decide)) (by rfl) (T.glo "_law_like" rfl) (F__law_like T).kp (B__law_like T) .nil (passes_call (takes_of rfl rfl rfl rfl) (fun _ _ _ _ h => h)) (va_cons (ve_call hC hE (pe_call (v_is_number T) (hr.mono (by decide)) (by rfl) (T.glo "is_number" rfl) (F_is_number T).kp (B_is_number T) .nil (passes_call (takes_of rfl rfl rfl rfl) (fun _ _ _ _ h => h)) (va_cons (ve_var (pv 7)) (va_cons (ve_var (pv 1)) (va_cons (ve_var (pv 2)) va_nil)))) (fun _ _ _ => .nil)) (va_cons (ve_cmp (op_notInU K (by have := hr.un; first | omega | (show (A.deeper _).units + 65 < cLine; omega))) d_notin (ve_var (pv 7)) (ve_tup (va_cons (ve_op op_sub d_I0 (ve_var (pv 1)) (ve_int pe_int)) (va_cons (ve_op (op_addD K) d_add (ve_var (pv 2)) (ve_int pe_int)) va_nil))) (by with_unfolding_all rfl)) va_nil))) (fun _ _ _ => .nil)))) (vss_one (vs_ret (ps_ret (ve_bl pe_bl)))) vss_nil)))
  (vss_cons (vs_for (passes_of rfl) rfl (vi_list rfl (ve_lst (va_cons (ve_bl pe_bl) (va_cons (ve_bl pe_bl) (va_cons (ve_non pe_non) (va_cons (ve_cb (pe_callTy (call_strD (m_35 T) hr) (by rfl) (T.free "str" rfl) boot_str (va_cons (ve_var (pv 1)) va_nil)) d_strD) (va_cons (ve_tup (va_cons (ve_var (pv 1)) va_nil)) (va_cons (ve_lst (va_cons (ve_var (pv 1)) va_nil)) (va_cons (ve_str pe_str) va_nil))))))))) (vg_name (pg_name (i := 7) sc__law_judged.nd rfl (Or.inl rfl))) (vss_one (vs_if (vt_not (vt_val (ve_call hC hE (pe_call (v__law_like T 4) (hr.mono (by decide)) (by rfl) (T.glo "_law_like" rfl) (F__law_like T).kp (B__law_like T) .nil (passes_call (takes_of rfl rfl rfl rfl) (fun _ _ _ _ h => h)) (va_cons (ve_call hC hE (pe_call (v_is_number T) (hr.mono (by decide)) (by rfl) (T.glo "is_number" rfl) (F_is_number T).kp (B_is_number T) .nil (passes_call (takes_of rfl rfl rfl rfl) (fun _ _ _ _ h => h)) (va_cons (ve_var (pv 7)) (va_cons (ve_cb (pe_callB (call_min2 rfl) (by rfl) (T.free "min" rfl) boot_min (va_cons (ve_var (pv 1)) (va_cons (ve_int pe_int) va_nil))) d_min2) (va_cons (ve_cb (pe_callB (call_max2 rfl) (by rfl) (T.free "max" rfl) boot_max (va_cons (ve_var (pv 2)) (va_cons (ve_int pe_int) va_nil))) d_max2) va_nil)))) (fun _ _ _ => .nil)) (va_cons (ve_bl pe_bl) va_nil))) (fun _ _ _ => .nil)))) (vss_one (vs_ret (ps_ret (ve_bl pe_bl)))) vss_nil)))
  (vss_cons (vs_for (passes_of rfl) rfl (vi_list rfl (ve_lst (va_cons (ve_op (op_addD K) d_add (ve_op (op_addD K) d_add (ve_slice (sl_U K) d_sl (ve_var (pv 4)) vo_none (vo_some (ve_var (pv 5)))) (ve_tup (va_cons (ve_var (pv 6)) va_nil))) (ve_slice (sl_U K) d_sl (ve_var (pv 4)) (vo_some (ve_var (pv 5))) vo_none)) (va_cons (ve_cb (pe_callTy (call_listLTK K) (by rfl) (T.free "list" rfl) boot_list (va_cons (ve_var (pv 4)) va_nil)) d_list) (va_cons (ve_non pe_non) (va_cons (ve_str pe_str) (va_cons (ve_int pe_int) (va_cons (ve_cb (pe_callTy (call_strT hr) (by rfl) (T.free "str" rfl) boot_str (va_cons (ve_var (pv 4)) va_nil)) d_strT) (va_cons (ve_lst (va_cons (ve_var (pv 4)) va_nil)) va_nil))))))))) (vg_name (pg_name (i := 7) sc__law_judged.nd rfl (Or.inl rfl))) (vss_one (vs_if (vt_not (vt_val (ve_call hC hE (pe_call (v__law_like T 4) (hr.mono (by decide)) (by rfl) (T.glo "_law_like" rfl) (F__law_like T).kp (B__law_like T) .nil (passes_call (takes_of rfl rfl rfl rfl) (fun _ _ _ _ h => h)) (va_cons (ve_call hC hE (pe_call (v_is_wordX T) (hr.mono (by decide)) (by rfl) (T.glo "is_word" rfl) (F_is_word T).kp (B_is_word T) .nil (passes_call (takes_of rfl rfl rfl rfl) (fun _ _ _ _ h => h)) (va_cons (ve_var (pv 7)) (va_cons (ve_var (pv 3)) va_nil))) (fun _ _ _ => .nil)) (va_cons (ve_bl pe_bl) va_nil))) (fun _ _ _ => .nil)))) (vss_one (vs_ret (ps_ret (ve_bl pe_bl)))) vss_nil)))
  (vss_one (vs_ret (ps_ret (ve_call hC hE (pe_call (v__law_like T 4) (hr.mono (by decide)) (by rfl) (T.glo "_law_like" rfl) (F__law_like T).kp (B__law_like T) .nil (passes_call (takes_of rfl rfl rfl rfl) (fun _ _ _ _ h => h)) (va_cons (ve_lst (va_cons (ve_call hC hE (pe_call (v_is_wordX T) (hr.mono (by decide)) (by rfl) (T.glo "is_word" rfl) (F_is_word T).kp (B_is_word T) .nil (passes_call (takes_of rfl rfl rfl rfl) (fun _ _ _ _ h => h)) (va_cons (ve_var (pv 4)) (va_cons (ve_var (pv 3)) va_nil))) (fun _ _ _ => .nil)) (va_cons (ve_call hC hE (pe_call (v_is_wordX T) (hr.mono (by decide)) (by rfl) (T.glo "is_word" rfl) (F_is_word T).kp (B_is_word T) .nil (passes_call (takes_of rfl rfl rfl rfl) (fun _ _ _ _ h => h)) (va_cons (ve_tup va_nil) (va_cons (ve_var (pv 3)) va_nil))) (fun _ _ _ => .nil)) (va_cons (ve_call hC hE (pe_call (v_is_wordX T) (hr.mono (by decide)) (by rfl) (T.glo "is_word" rfl) (F_is_word T).kp (B_is_word T) .nil (passes_call (takes_of rfl rfl rfl rfl) (fun _ _ _ _ h => h)) (va_cons (ve_op (op_addD K) d_add (ve_var (pv 4)) (ve_tup (va_cons (ve_op op_sub d_I0 (ve_var (pv 3)) (ve_int pe_int)) va_nil))) (va_cons (ve_var (pv 3)) va_nil))) (fun _ _ _ => .nil)) va_nil)))) (va_cons (ve_op op_rep d_repL (ve_lst (va_cons (ve_bl pe_bl) va_nil)) (ve_int pe_int)) va_nil))) (fun _ _ _ => .nil))))))))))))), ?_⟩)
  · rintro ds n Q E ⟨rfl, _⟩; rfl
  · obtain ⟨rfl, hn, hq⟩ := h
    walk_at "vin"
    walk_at "vy"
    refine y_draw (by omega) (by decide) (by decide) fun low0 l0 l1 => ?_
    walk_at "vy"
    refine y_draw (by omega) (by decide) (by decide) fun z1 z10 z11 => ?_
    walk_at "vy"
    refine y_draw (by omega) (by decide) (by decide) fun z2 z20 z21 => ?_
    walk_at "vy"
    refine y_of (by omega) (by simp) (by simp) fun j hd hj => ?_
    obtain ⟨g, rfl, g0, g1⟩ : ∃ g : Int, hd = .int g ∧ 0 ≤ g ∧ g < 100000 := by
      have hm := List.mem_of_getElem? hj
      simp only [List.mem_cons, List.not_mem_nil, or_false] at hm
      rcases hm with rfl | rfl | rfl | rfl
      all_goals exact ⟨_, rfl, by omega, by omega⟩
    walk_at "vy"
    refine y_draw (by omega) (by decide) (by decide) fun z3 z30 z31 => ?_
    obtain ⟨s, hs⟩ : ∃ s : Nat, 1 + z3 = (s : Int) := ⟨(1 + z3).toNat, by omega⟩
    walk_at "vy"
    rw [hs]
    refine y_draw (by omega) (by decide) (by decide) fun z4 z40 z41 => ?_
    walk_at "vy"
    refine VF.y_lcI (fun i acc m => m = n + 6 + i ∧ ∃ xs : List Nat, acc = nD xs ∧ xs.length = i ∧ ∀ x ∈ xs, (x : Int) < s) ⟨by omega, [], rfl, rfl, nofun⟩ (fun i d acc m hd hI => ?_) (fun acc m hI => ?_)
    · obtain ⟨hm, xs, rfl, hl, hx⟩ := hI
      obtain ⟨hi, rfl⟩ := rng_get hd
      walk_at "vy"
      refine y_draw (by omega) (by omega) (by omega) fun x x0 x1 => ?_
      walk_at "vy"
      refine ⟨by rw [nD_len]; omega, by omega, xs ++ [x.toNat], ?_, by rw [List.length_append, hl]; rfl, fun y hy => ?_⟩
      · unfold nD
        rw [List.map_append, List.map_singleton, Int.toNat_of_nonneg x0]
      · rcases List.mem_append.mp hy with hy | hy
        · exact hx y hy
        · rw [List.mem_singleton.mp hy]
          omega
    obtain ⟨hm, xs, rfl, hl, hx⟩ := hI
    rw [rngD_len] at hl hm
    have lx : (nD xs).length = xs.length := nD_len xs
    walk_at "vy"
    refine y_draw (by omega) (by omega) (by omega) fun spot sp0 sp1 => ?_
    walk_at "vy"
    refine y_of (by omega) (by simp) (by simp) fun j odd hj => ?_
    have hmin : min (s : Int) 64 = s := by omega
    obtain ⟨po, go⟩ : Pz 2 odd ∧ signB (s : Int) odd = false := by
      have hm := List.mem_of_getElem? hj
      simp only [List.mem_cons, List.not_mem_nil, or_false] at hm
      rcases hm with rfl | rfl | rfl | rfl | rfl | rfl | rfl | rfl | rfl
      all_goals first
        | exact ⟨.bl, rfl⟩
        | exact ⟨.non, rfl⟩
        | exact ⟨.str (by decide +kernel), rfl⟩
        | exact ⟨.tup (pz_one .int) (by decide), rfl⟩
        | exact ⟨.lst nofun (by decide), rfl⟩
        | exact ⟨.int, sign_lo (by omega)⟩
        | exact ⟨.int, sign_hi (by omega)⟩
    walk_at "vy"
    refine y_draw (by omega) (by omega) (by omega) fun mid md0 md1 => ?_
    walk_at "vy"
    refine VF.y_loop (fun i τ n' => n' = m + 3 ∧ ∃ o7 o8, τ = [some (.d .bag), some (.d (.int (low0 - 10))), some (.d (.int (low0 - 10 + g))), some (.d (.int s)), some (.d (.tup (nD xs))), some (.d (.int spot)), some (.d odd), o7, o8]) ⟨by omega, _, _, rfl⟩ ?_ ?_
    · rintro i d τ n' hd ⟨rfl, o7, o8, rfl⟩
      obtain ⟨v, rfl, hv⟩ : ∃ v : Int, d = .int v ∧ numB (.int v) (low0 - 10) (low0 - 10 + g) = !([low0 - 10 - 1, low0 - 10 + g + 1].contains v) := by
        have hm := List.mem_of_getElem? hd
        simp only [List.mem_cons, List.not_mem_nil, or_false] at hm
        rcases hm with rfl | rfl | rfl | rfl | rfl
        all_goals exact ⟨_, rfl, num_notin (by omega) (by omega)⟩
      walk_at "vy"
      refine y_num .int ?_
      rw [hv]
      walk_at "vy"
      refine VF.y_inI (ns := [low0 - 10 - 1, low0 - 10 + g + 1]) ?_
      walk_at "vy"
      refine y_like .bl ?_
      walk_at "vy"
      exact ⟨rfl, _, _, rfl⟩
    rintro τ n' ⟨rfl, o7, o8, rfl⟩
    walk_at "vy"
    refine VF.y_strD (lt43 (by omega)) ?_
    walk_at "vy"
    refine VF.y_loop (fun i τ n' => n' = m + 3 ∧ ∃ o7, τ = [some (.d .bag), some (.d (.int (low0 - 10))), some (.d (.int (low0 - 10 + g))), some (.d (.int s)), some (.d (.tup (nD xs))), some (.d (.int spot)), some (.d odd), o7, o8]) ⟨rfl, _, rfl⟩ ?_ ?_
    · rintro i d τ n' hd ⟨rfl, o7, rfl⟩
      obtain ⟨pd, hv⟩ : Pl 8 d ∧ ∀ lo hi, numB d lo hi = false := by
        have hm := List.mem_of_getElem? hd
        simp only [List.mem_cons, List.not_mem_nil, or_false] at hm
        rcases hm with rfl | rfl | rfl | rfl | rfl | rfl | rfl
        all_goals first
          | exact ⟨.bl, fun _ _ => rfl⟩
          | exact ⟨.non, fun _ _ => rfl⟩
          | exact ⟨.str (by decide +kernel), fun _ _ => rfl⟩
          | exact ⟨.str (lay_string _), fun _ _ => rfl⟩
          | exact ⟨(Pz.tup (k := 1) (pz_one .int) (by simp)).1.mono (by decide), fun _ _ => rfl⟩
          | exact ⟨(Pz.lst (k := 1) (pz_one .int) (by simp)).1.mono (by decide), fun _ _ => rfl⟩
      walk_at "vy"
      refine y_num pd ?_
      rw [hv]
      walk_at "vy"
      refine y_like .bl ?_
      walk_at "vy"
      exact ⟨rfl, _, rfl⟩
    rintro τ n' ⟨rfl, o7, rfl⟩
    walk_at "vy"
    obtain ⟨A, hA⟩ : ∃ A, VF.cutD (nD xs) none (some spot) = A := ⟨_, rfl⟩
    have lA : A.length ≤ xs.length := by rw [← hA, ← lx]; exact cut_len
    have mA : ∀ d ∈ A, ∃ i : Int, d = .int i := fun d hd => cut_mem (by rw [hA]; exact hd)
    rw [hA]
    refine VF.y_addT (by simp only [List.length_cons, List.length_nil]; omega) ?_
    walk_at "vy"
    obtain ⟨B, hB⟩ : ∃ B, VF.cutD (nD xs) (some spot) none = B := ⟨_, rfl⟩
    have lB : B.length ≤ xs.length := by rw [← hB, ← lx]; exact cut_len
    have mB : ∀ d ∈ B, ∃ i : Int, d = .int i := fun d hd => cut_mem (by rw [hB]; exact hd)
    rw [hB]
    refine VF.y_addT (by simp only [List.length_append, List.length_cons, List.length_nil]; omega) ?_
    walk_at "vy"
    rw [nD_iD]
    refine VF.y_strT (by rw [List.length_map]; omega) (fun i hi => ?_) fun y hy => ?_
    · obtain ⟨x, hx', rfl⟩ := List.mem_map.mp hi
      have := hx x hx'
      omega
    rw [← nD_iD]
    have px : Pz 1 (.tup (nD xs)) := pz_nD (by omega)
    walk_at "vy"
    refine VF.y_loop (fun i τ n' => n' = m + 3 ∧ ∃ o7, τ = [some (.d .bag), some (.d (.int (low0 - 10))), some (.d (.int (low0 - 10 + g))), some (.d (.int s)), some (.d (.tup (nD xs))), some (.d (.int spot)), some (.d odd), o7, o8]) ⟨rfl, _, rfl⟩ ?_ ?_
    · rintro i d τ n' hd ⟨rfl, o7, rfl⟩
      have hd2 : (Pl 8 d ∧ wordB d (s : Int) = false) ∨ ∃ z, d = .str z := by
        have hm := List.mem_of_getElem? hd
        simp only [List.mem_cons, List.not_mem_nil, or_false] at hm
        rcases hm with rfl | rfl | rfl | rfl | rfl | rfl | rfl
        · refine .inl ⟨?_, word_bad (List.mem_append_left _ (List.mem_append_right _ (List.mem_singleton.mpr rfl))) go⟩
          refine (Pz.tup (k := 2) (fun d hd => ?_) (by simp only [List.length_append, List.length_cons, List.length_nil]; omega)).1.mono (by decide)
          rcases List.mem_append.mp hd with hd | hd
          · rcases List.mem_append.mp hd with hd | hd
            · obtain ⟨i, rfl⟩ := mA d hd
              exact .int
            · rw [List.mem_singleton.mp hd]
              exact po
          · obtain ⟨i, rfl⟩ := mB d hd
            exact .int
        · exact .inl ⟨(Pz.lst (k := 1) (fun d hd => (px.of_tup d hd).mono (by decide)) (by omega)).1.mono (by decide), rfl⟩
        · exact .inl ⟨.non, rfl⟩
        · exact .inr ⟨_, rfl⟩
        · exact .inl ⟨.int, rfl⟩
        · exact .inr ⟨_, rfl⟩
        · exact .inl ⟨(Pz.lst (k := 1) (pz_one px) (by simp)).1.mono (by decide), rfl⟩
      walk_at "vy"
      have key : ∀ (Q : VF.DV → Int → Prop) (E : XV) (n : Int), Q (.bl false) n → sIsWordX ([d, .int s] ++ []) n Q E := fun Q E n q => by
        rcases hd2 with ⟨pd, hw⟩ | ⟨z, rfl⟩
        · exact .inl (y_isWord pd (by rw [hmin, hw]; exact q))
        · exact .inr ⟨z, _, rfl, q⟩
      refine key _ _ _ ?_
      walk_at "vy"
      refine y_like .bl ?_
      walk_at "vy"
      exact ⟨rfl, _, rfl⟩
    rintro τ n' ⟨rfl, o7, rfl⟩
    walk_at "vy"
    have isW : ∀ (d : VF.DV) (Q : VF.DV → Int → Prop) (E : XV) (n : Int), Pl 8 d → wordB d (s : Int) = true → Q (.bl true) n → sIsWordX ([d, .int s] ++ []) n Q E := fun d Q E n pd hw q => .inl (y_isWord pd (by rw [hmin, hw]; exact q))
    refine isW _ _ _ _ (px.1.mono (by decide)) (word_nD hx) ?_
    walk_at "vy"
    refine isW _ _ _ _ ((Pz.tup (k := 1) (ds := []) nofun (by simp)).1.mono (by decide)) rfl ?_
    walk_at "vy"
    refine VF.y_addT (by simp only [List.length_cons, List.length_nil]; omega) ?_
    walk_at "vy"
    refine isW _ _ _ _ ((Pz.tup (k := 1) (fun d hd => ?_) (by simp only [List.length_append, List.length_cons, List.length_nil]; omega)).1.mono (by decide)) (List.all_eq_true.mpr fun d hd => ?_) ?_
    · rcases List.mem_append.mp hd with hd | hd
      · exact (px.of_tup d hd).mono (by decide)
      · rw [List.mem_singleton.mp hd]
        exact .int
    · rcases List.mem_append.mp hd with hd | hd
      · exact List.all_eq_true.mp (word_nD hx) d hd
      · rw [List.mem_singleton.mp hd]
        exact sign_in (by omega) (by omega)
    walk_at "vy"
    refine VF.y_repL (by decide) (by decide) (by simp) ?_
    walk_at "vy"
    refine y_like (d := .lst [.bl true, .bl true, .bl true]) (.lst (pz_c .bl (pz_c .bl (pz_one .bl))) (by simp)) ?_
    walk_at "vy"
    exact hq _ (by omega)
theorem y_judged {n : Int} {Q : VF.DV → Int → Prop} {E : XV} (h : n ≤ 600000) (q : ∀ n', n' ≤ n + 30 → Q (.bl true) n') : sJudged ([.bag] ++ []) n Q E := ⟨rfl, h, q⟩
end
end BF
/-! ## Words over many signs; other primes; truth -/
namespace BF
open PySem PySem.Spec PyProof.Rows L2 VF
def sMore : DSp := fun ds n Q _ => ds = [.bag] ∧ n ≤ 900000 ∧ ∀ n', n' ≤ n + 10 → Q (.bl true) n'
def p8 : List Nat := [19, 23, 29, 31, 37, 43, 47, 53]
theorem p8_ok : ∀ p ∈ p8, 1 < p ∧ p ≤ 64 ∧ primeB (.int p) = true ∧ Nat.Coprime p 6 ∧ Nat.Coprime 3 p := by decide
section
variable {P : Program} {w : World} {K : PySem.W.Frag} {mg : Str → Option Value} {base : Heap}
theorem sc__law_more_words : FnScope ["_law_bag_here", "_law_many", "_law_prime", "_law_ratio", "_law_told"] ["_law_bag_here"] (defScope s__law_more_words) := ⟨rfl, rfl, rfl, by decide +kernel, rfl, by decide +kernel, by decide +kernel⟩
theorem v__law_more_words (T : TT K mg) : FnOk P w K mg base (L2.CX P w) 12 (He.ga K "_law_more_words") (fdOf K ("_law_more_words", none)) ["_law_bag_here"] (liftSp K (Cs K) sMore) := by
  obtain ⟨ds2, v2, b2⟩ := B_init2 T
  obtain ⟨ds1, v1, b1⟩ := B_init1 T
  refine v_ok (F__law_more_words T) sc__law_more_words (by decide) (by decide) ?_ (fun cdv A outer s H W ds n Q' hC hE hr h => ⟨_, (vss_cons (vs_par (ps_par (i := 1) (j := 2) rfl sc__law_more_words.nd rfl rfl (by decide) rfl rfl (va_cons (ve_op (op_addD K) d_add (ve_int pe_int) (ve_call hC hE (pe_call (v__law_draw T) (hr.mono (by decide)) (by rfl) (T.glo "_law_draw" rfl) (F__law_draw T).kp (B__law_draw T) .nil pass0 (va_cons (ve_var (pv 0)) (va_cons (ve_int pe_int) va_nil))) (fun _ _ _ => .nil))) (va_cons (ve_call hC hE (pe_call (v__law_of T) (hr.mono (by decide)) (by rfl) (T.glo "_law_of" rfl) (F__law_of T).kp (B__law_of T) .nil (passes_call (takes_of rfl rfl rfl rfl) (fun _ _ _ _ h => h)) (va_cons (ve_var (pv 0)) (va_cons (ve_lst (va_cons (ve_int pe_int) (va_cons (ve_int pe_int) (va_cons (ve_int pe_int) (va_cons (ve_int pe_int) (va_cons (ve_int pe_int) (va_cons (ve_int pe_int) (va_cons (ve_int pe_int) (va_cons (ve_int pe_int) va_nil))))))))) va_nil))) (fun _ _ _ => .nil)) va_nil)) rfl))
  (vss_cons (vs_if (vt_not (vt_val (ve_call hC hE (pe_call (v__law_like T 4) (hr.mono (by decide)) (by rfl) (T.glo "_law_like" rfl) (F__law_like T).kp (B__law_like T) .nil (passes_call (takes_of rfl rfl rfl rfl) (fun _ _ _ _ h => h)) (va_cons (ve_lst (va_cons (ve_call hC hE (pe_call (v_is_word T) (hr.mono (by decide)) (by rfl) (T.glo "is_word" rfl) (F_is_word T).kp (B_is_word T) .nil (passes_call (takes_of rfl rfl rfl rfl) (fun _ _ _ _ h => h)) (va_cons (ve_tup (va_cons (ve_int pe_int) va_nil)) (va_cons (ve_var (pv 1)) va_nil))) (fun _ _ _ => .nil)) (va_cons (ve_call hC hE (pe_call (v_is_word T) (hr.mono (by decide)) (by rfl) (T.glo "is_word" rfl) (F_is_word T).kp (B_is_word T) .nil (passes_call (takes_of rfl rfl rfl rfl) (fun _ _ _ _ h => h)) (va_cons (ve_tup (va_cons (ve_int pe_int) (va_cons (ve_int pe_int) va_nil))) (va_cons (ve_var (pv 1)) va_nil))) (fun _ _ _ => .nil)) (va_cons (ve_call hC hE (pe_call (v_is_word T) (hr.mono (by decide)) (by rfl) (T.glo "is_word" rfl) (F_is_word T).kp (B_is_word T) .nil (passes_call (takes_of rfl rfl rfl rfl) (fun _ _ _ _ h => h)) (va_cons (ve_tup (va_cons (ve_int pe_int) (va_cons (ve_op op_sub d_I0 (ve_var (pv 1)) (ve_int pe_int)) va_nil))) (va_cons (ve_var (pv 1)) va_nil))) (fun _ _ _ => .nil)) va_nil)))) (va_cons (ve_lst (va_cons (ve_bl pe_bl) (va_cons (ve_bl pe_bl) (va_cons (ve_bl pe_bl) va_nil)))) va_nil))) (fun _ _ _ => .nil)))) (vss_one (vs_ret (ps_ret (ve_bl pe_bl)))) vss_nil)
  (vss_cons (vs_set (ps_set (i := 3) sc__law_more_words.nd rfl (Or.inl rfl) (ve_make (cl := "Ratio") hC hE (pe_makeE (T.mkr "Ratio" rfl) (v_Ratio___init__ T) (hr.mono (by decide)) (by rfl) (T.glo "Ratio" rfl) b2 v2 (passes_call (takes_of rfl rfl rfl rfl) (fun _ _ _ _ h => h)) (va_cons (ve_op op_mulW d_I (ve_var (pv 2)) (ve_var (pv 2))) (va_cons (ve_int pe_int) va_nil))) (fun _ _ _ => .nil))))
  (vss_cons (vs_set (ps_set (i := 4) sc__law_more_words.nd rfl (Or.inl rfl) (ve_lst (va_cons (ve_meth (cl := "Ratio") (m := "power") hC hE (pe_meth (ve_var (pv 3)) (T.cls "Ratio" rfl) (T.meth "Ratio" "power" rfl) (v_Ratio_power T) (hr.mono (by decide)) (B_Ratio_power T) .nil (passes_call (takes_of rfl rfl rfl rfl) (fun _ _ _ _ h => h)) (va_cons (ve_var (pv 2)) va_nil)) (fun _ _ _ => .nil)) (va_cons (ve_meth (cl := "Ratio") (m := "power") hC hE (pe_meth (ve_own1 (cl := "Ratio") hC hE (pe_un (BF.un_ownInv (v_Ratio___invert__ T) (hr.mono (by decide)) (of_decide_eq_true (m_12 T)) (m_13 T) (B_Ratio___invert__ T) (passes_call (takes_of rfl rfl rfl rfl) (fun _ _ _ _ h => h))) (ve_var (pv 3)))) (T.cls "Ratio" rfl) (T.meth "Ratio" "power" rfl) (v_Ratio_power T) (hr.mono (by decide)) (B_Ratio_power T) .nil (passes_call (takes_of rfl rfl rfl rfl) (fun _ _ _ _ h => h)) (va_cons (ve_var (pv 2)) va_nil)) (fun _ _ _ => .nil)) (va_cons (ve_meth (cl := "Ratio") (m := "power") hC hE (pe_meth (ve_ownI (cl := "Ratio") hC hE (pe_op (op_ownPow (v_Ratio___pow__ T) (hr.mono (by decide)) (m_4 T) (of_decide_eq_true (m_14 T)) (m_15 T) (of_decide_eq_true (m_36 T)) (m_37 T) (m_38 T) (of_decide_eq_true (m_39 T)) (B_Ratio___pow__ T) (passes_call (takes_of rfl rfl rfl rfl) (fun _ _ _ _ h => h))) (ve_var (pv 3)) (ve_int pe_int))) (T.cls "Ratio" rfl) (T.meth "Ratio" "power" rfl) (v_Ratio_power T) (hr.mono (by decide)) (B_Ratio_power T) .nil (passes_call (takes_of rfl rfl rfl rfl) (fun _ _ _ _ h => h)) (va_cons (ve_var (pv 2)) va_nil)) (fun _ _ _ => .nil)) (va_cons (ve_meth (cl := "Ratio") (m := "power") hC hE (pe_meth (ve_ownI (cl := "Ratio") hC hE (pe_op (op_ownPow (v_Ratio___pow__ T) (hr.mono (by decide)) (m_4 T) (of_decide_eq_true (m_14 T)) (m_15 T) (of_decide_eq_true (m_36 T)) (m_37 T) (m_38 T) (of_decide_eq_true (m_39 T)) (B_Ratio___pow__ T) (passes_call (takes_of rfl rfl rfl rfl) (fun _ _ _ _ h => h))) (ve_var (pv 3)) (ve_int pe_int))) (T.cls "Ratio" rfl) (T.meth "Ratio" "power" rfl) (v_Ratio_power T) (hr.mono (by decide)) (B_Ratio_power T) .nil (passes_call (takes_of rfl rfl rfl rfl) (fun _ _ _ _ h => h)) (va_cons (ve_int pe_int) va_nil)) (fun _ _ _ => .nil)) va_nil)))))))
  (vss_one (vs_ret (ps_ret (ve_call hC hE (pe_call (v__law_like T 4) (hr.mono (by decide)) (by rfl) (T.glo "_law_like" rfl) (F__law_like T).kp (B__law_like T) .nil (passes_call (takes_of rfl rfl rfl rfl) (fun _ _ _ _ h => h)) (va_cons (ve_op (op_addD K) d_add (ve_var (pv 4)) (ve_lst (va_cons (ve_cb (pe_callTy (call_boolOwn (of_decide_eq_true (m_43 T)) (of_decide_eq_true (m_44 T))) (by rfl) (T.free "bool" rfl) boot_bool (va_cons (ve_make (cl := "Ratio") hC hE (pe_makeE (T.mkr "Ratio" rfl) (v_Ratio___init__ T) (hr.mono (by decide)) (by rfl) (T.glo "Ratio" rfl) b1 v1 (passes_call (takes_of rfl rfl rfl rfl) (fun _ _ _ _ h => h)) (va_cons (ve_int pe_int) va_nil)) (fun _ _ _ => .cons (.int 1) .nil)) va_nil)) (d_boolO (cl := "Ratio"))) (va_cons (ve_cb (pe_callTy (call_boolOwn (of_decide_eq_true (m_43 T)) (of_decide_eq_true (m_44 T))) (by rfl) (T.free "bool" rfl) boot_bool (va_cons (ve_var (pv 3)) va_nil)) (d_boolO (cl := "Ratio"))) va_nil)))) (va_cons (ve_lst (va_cons (ve_int pe_int) (va_cons (ve_op op_sub d_I0 (ve_int pe_int) (ve_int pe_int)) (va_cons (ve_int pe_int) (va_cons (ve_op op_sub d_I0 (ve_int pe_int) (ve_int pe_int)) (va_cons (ve_bl pe_bl) (va_cons (ve_bl pe_bl) va_nil))))))) va_nil))) (fun _ _ _ => .nil))))))))), ?_⟩)
  · rintro ds n Q E ⟨rfl, _⟩; rfl
  · obtain ⟨rfl, hn, hq⟩ := h
    walk_at "vin"
    walk_at "vy"
    refine y_draw (by omega) (by decide) (by decide) fun z0 z00 z01 => ?_
    walk_at "vy"
    refine y_of (by omega) (by simp) (by simp) fun j pd hj => ?_
    obtain ⟨p, rfl, hp⟩ : ∃ p : Nat, pd = .int p ∧ p ∈ p8 := by
      have hm := List.mem_of_getElem? hj
      simp only [List.mem_cons, List.not_mem_nil, or_false] at hm
      rcases hm with rfl | rfl | rfl | rfl | rfl | rfl | rfl | rfl
      all_goals exact ⟨_, rfl, by decide⟩
    obtain ⟨p1, p64, pp, c6, c3⟩ := p8_ok p hp
    have hmin : min (65 + z0) 64 = 64 := by omega
    have tp : ∀ {ds : List VF.DV}, (∀ d ∈ ds, Pz 1 d) → ds.length ≤ 1000000 → Pl 8 (.tup ds) := fun h l => (Pz.tup h l).1.mono (by decide)
    have w1 : wordB (.tup [.int 64]) 64 = false := by decide
    have w2 : wordB (.tup [.int 63, .int 0]) 64 = true := by decide
    have w3 : wordB (.tup [.int 0, .int (65 + z0 - 1)]) 64 = false := word_bad (d := .int (65 + z0 - 1)) (by simp) (sign_hi (by omega))
    walk_at "vy"
    refine y_isWord (tp (pz_one .int) (by simp)) ?_
    rw [hmin, w1]
    walk_at "vy"
    refine y_isWord (tp (pz_c .int (pz_one .int)) (by simp)) ?_
    rw [hmin, w2]
    walk_at "vy"
    refine y_isWord (tp (pz_c .int (pz_one .int)) (by simp)) ?_
    rw [hmin, w3]
    walk_at "vy"
    refine y_like (.lst (pz_c .bl (pz_c .bl (pz_one .bl))) (by simp)) ?_
    have pp0 : 0 < p * p := Nat.mul_pos (by omega) (by omega)
    have ppl : p * p < 2 ^ 13 := Nat.lt_of_le_of_lt (Nat.mul_le_mul p64 p64) (by decide)
    have cpp : Nat.Coprime (p * p) 6 := Nat.Coprime.mul_left c6 c6
    have c3p : Nat.Coprime 3 (p * p) := Nat.Coprime.mul_right c3 c3
    have esq : ∀ j : Nat, (p * p) ^ j = p ^ (2 * j) := fun j => by rw [show p * p = p ^ 2 from (Nat.pow_two p).symm, ← Nat.pow_mul]
    have npp : ∀ {q : Prop}, primeB (.int p) = false → q := fun h => by rw [pp] at h; cases h
    walk_at "vy"
    refine rinit_of (g := 1) (t := p * p) (b := 6) (by rw [Nat.one_mul, Int.natCast_mul]) rfl (by decide) (lt_pow9 (by decide)) (by decide) cpp ?_
    walk_at "vy"
    refine y_meth2 rfl ?_
    walk_at "vy"
    refine y_power (t := p * p) (b := 6) .int npp (fun _ h => by omega) fun p' e1 _ _ _ _ => ?_
    obtain rfl : p = p' := by injection e1 with e1; omega
    refine ⟨2, 1, 0, 6, by rw [Nat.mul_one, Nat.pow_two], by rw [Nat.pow_zero, Nat.one_mul], by decide, by decide, Nat.coprime_one_right _, c6, ?_⟩
    walk_at "vy"
    refine ⟨_, _, rfl, p * p, 6, rfl, by decide, cpp, fun h => by omega, fun _ => ?_⟩
    refine y_meth2 rfl ?_
    walk_at "vy"
    refine y_power (t := 6) (b := p * p) .int npp (fun _ h => by omega) fun p' e1 _ _ _ _ => ?_
    obtain rfl : p = p' := by injection e1 with e1; omega
    refine ⟨0, 6, 2, 1, by rw [Nat.pow_zero, Nat.one_mul], by rw [Nat.mul_one, Nat.pow_two], by decide, by decide, c6, Nat.coprime_one_right _, ?_⟩
    walk_at "vy"
    refine ⟨_, _, 5, rfl, rfl, y_raised 13 (t := p * p) (b := 6) (by decide) cpp ppl (by decide) (by decide) (by decide) (by decide) (fun _ => ?_) (fun h => absurd h (by decide)) (fun h => absurd h (by decide))⟩
    refine y_meth2 rfl ?_
    walk_at "vy"
    refine y_power (t := (p * p) ^ 5) (b := 6 ^ 5) .int npp (fun _ h => by have := Nat.pow_pos (n := 5) pp0; omega) fun p' e1 _ _ _ _ => ?_
    obtain rfl : p = p' := by injection e1 with e1; omega
    refine ⟨10, 1, 0, 6 ^ 5, by rw [Nat.mul_one, esq], by rw [Nat.pow_zero, Nat.one_mul], by decide, by decide, Nat.coprime_one_right _, Nat.Coprime.pow_right 5 c6, ?_⟩
    walk_at "vy"
    refine ⟨_, _, 12, rfl, rfl, y_raised 13 (t := p * p) (b := 6) (by decide) cpp ppl (by decide) (by decide) (by decide) (by decide) (fun _ => ?_) (fun h => absurd h (by decide)) (fun h => absurd h (by decide))⟩
    refine y_meth2 rfl ?_
    walk_at "vy"
    refine y_power (t := (p * p) ^ 12) (b := 6 ^ 12) .int (fun h => absurd h (by decide)) (fun _ h => by have := Nat.pow_pos (n := 12) pp0; omega) fun p' e1 _ _ _ _ => ?_
    obtain rfl : p' = 3 := by injection e1 with e1; omega
    refine ⟨0, (p * p) ^ 12, 12, 2 ^ 12, by rw [Nat.pow_zero, Nat.one_mul], by decide, Nat.pow_pos pp0, by decide, Nat.Coprime.pow_right 12 c3p, by decide +kernel, ?_⟩
    walk_at "vy"
    refine rinit_of (g := 1) (t := 0) (b := 1) rfl rfl (by decide) (lt_pow9 (by decide)) (by decide) (by decide) ?_
    walk_at "vy"
    refine VF.y_addL (by simp) ?_
    walk_at "vy"
    refine y_like (d := .lst [.int 2, .int (-2), .int 10, .int (-12), .bl true, .bl true]) (.lst (pz_c .int (pz_c .int (pz_c .int (pz_c .int (pz_c .bl (pz_one .bl)))))) (by simp)) ?_
    walk_at "vy"
    exact hq _ (by omega)
theorem y_more {n : Int} {Q : VF.DV → Int → Prop} {E : XV} (h : n ≤ 900000) (q : ∀ n', n' ≤ n + 10 → Q (.bl true) n') : sMore ([.bag] ++ []) n Q E := ⟨rfl, h, q⟩
end
end BF
/-! ## the law -/
namespace BF
open PySem PySem.Spec PyProof.Rows L2 VF
def spLaw (K : PySem.W.Frag) : Sp := fun vs H Q E => ∃ (a : Addr) (ns : List Int), vs = [.ref a] ∧ E = C8.E0 ∧ SqL K H a (ns.map V.int) ∧ LamX.Tabs (tabs K) H ∧ ∀ H', Q (.bl true) H'
theorem mid_rel {K : PySem.W.Frag} {b sc : Addr} {ms : List Int} {H : Hp} {N : Nat} {x : Option V} {σ : L2.St} (hb : Bag K b sc ms H 0) (hT : LamX.Tabs (tabs K) H) (hN : N < 1000) (e : σ = x :: some (.ref b) :: List.replicate N none) (hm : (bagC K b sc ms).b ∈ [b]) :
    Rel K (midW (bagC K b sc ms) [b] H hm) [] [] [] (none :: some (.d .bag) :: List.replicate N none) 0 σ H := by
  subst e
  have al : AlN [b] H := fun y hy => by
    rw [List.mem_singleton.mp hy]
    obtain ⟨_, _, i, r, m, c, h, _⟩ := hb
    exact ⟨_, h, .inl ⟨_, rfl⟩⟩
  refine ⟨by simp, by simp; omega, fun i s hs => ?_, nofun, List.nodup_nil, nofun, Ey.refl H, hb, ⟨0, hb⟩, hT, al, al, fun y hy => .inl (List.mem_singleton.mp hy)⟩
  match i, hs with
  | 1, hs =>
    cases hs
    exact ⟨.ref b, rfl, .bag⟩
  | i + 2, hs =>
    rw [List.getElem?_cons_succ, List.getElem?_cons_succ, List.getElem?_replicate] at hs
    split at hs <;> cases hs
section
variable {P : Program} {w : World} {K : PySem.W.Frag} {mg : Str → Option Value} {base : Heap}
theorem sc_law : FnScope ["_law_script", "_law_bag_here", "_law_turn"] ["_law_script"] (defScope s_law) := ⟨rfl, rfl, rfl, by decide +kernel, rfl, by decide +kernel, by decide +kernel⟩
theorem ok_law (T : TT K mg) (hTB : ∀ p ∈ tf, LamX.TabB base mg (He.cT K p).1 (He.cT K p).2) : FnOk P w K mg base (L2.CX P w) 16 (He.ga K "law") (fdOf K ("law", none)) ["_law_script"] (spLaw K) := by
  refine (F_law T).ok sc_law (fun vs H Q E h => ?_) (fun cdv A outer s H vs Q E hr h => ?_)
  · obtain ⟨a, ns, rfl, _⟩ := h
    rfl
  · obtain ⟨a, ns, rfl, rfl, ha, hT, hQ⟩ := h
    refine ⟨_, pss_cons (ps_set (i := 1) sc_law.nd rfl (Or.inl rfl) (pe_call (ok__law_bag T) (hr.mono (by decide)) (by rfl) (T.glo "_law_bag" rfl) (F__law_bag T).kp (B__law_bag T) .nil pass0 (pa_cons (pv 0) pa_nil))) (pss_mid (Cs := Cs K) fun C M H0 hb hC hE => (vss_cons (vs_for (passes_of rfl) rfl (vi_rng1 (pi_range1 (by rfl) (T.free "range" rfl) (va_cons (ve_int pe_int) va_nil))) (vg_name (pg_name (i := 2) sc_law.nd rfl (Or.inl rfl))) (vss_one (vs_if (PW.pt (vw_or (vt_not (vt_val (ve_call hC hE (pe_call (v__law_ratios T hTB) (hr.mono (by decide)) (by rfl) (T.glo "_law_ratios" rfl) (F__law_ratios T).kp (B__law_ratios T) .nil (passes_call (takes_of rfl rfl rfl rfl) (fun _ _ _ _ h => h)) (va_cons (ve_var (pv 1)) va_nil)) (fun _ _ _ => .nil)))) (vw_or (vt_not (vt_val (ve_call hC hE (pe_call (v__law_words T hTB) (hr.mono (by decide)) (by rfl) (T.glo "_law_words" rfl) (F__law_words T).kp (B__law_words T) .nil (passes_call (takes_of rfl rfl rfl rfl) (fun _ _ _ _ h => h)) (va_cons (ve_var (pv 1)) va_nil)) (fun _ _ _ => .nil)))) (vw_or1 (vt_not (vt_val (ve_call hC hE (pe_call (v__law_judged T) (hr.mono (by decide)) (by rfl) (T.glo "_law_judged" rfl) (F__law_judged T).kp (B__law_judged T) .nil (passes_call (takes_of rfl rfl rfl rfl) (fun _ _ _ _ h => h)) (va_cons (ve_var (pv 1)) va_nil)) (fun _ _ _ => .nil)))))))) (vss_one (vs_ret (ps_ret (ve_bl pe_bl)))) vss_nil)))
  (vss_cons (vs_if (vt_not (vt_val (ve_call hC hE (pe_call (v__law_more_words T) (hr.mono (by decide)) (by rfl) (T.glo "_law_more_words" rfl) (F__law_more_words T).kp (B__law_more_words T) .nil (passes_call (takes_of rfl rfl rfl rfl) (fun _ _ _ _ h => h)) (va_cons (ve_var (pv 1)) va_nil)) (fun _ _ _ => .nil)))) (vss_one (vs_ret (ps_ret (ve_bl pe_bl)))) vss_nil)
  (vss_one (vs_ret (ps_ret (ve_and (ve_cmp (op_eqU K hr.units) d_eq (ve_gint (by rfl) (T.int "MOST" 4096 rfl)) (ve_int pe_int) (nomark _)) (ve_and (ve_call hC hE (pe_call (v__law_refused_ratios T hTB) (hr.mono (by decide)) (by rfl) (T.glo "_law_refused_ratios" rfl) (F__law_refused_ratios T).kp (B__law_refused_ratios T) .nil (passes_call (takes_of rfl rfl rfl rfl) (fun _ _ _ _ h => h)) (va_cons (ve_var (pv 1)) va_nil)) (fun _ _ _ => .nil)) (pe_one (ve_call hC hE (pe_call (v__law_refused_words T hTB) (hr.mono (by decide)) (by rfl) (T.glo "_law_refused_words" rfl) (F__law_refused_words T).kp (B__law_refused_words T) .nil (passes_call (takes_of rfl rfl rfl rfl) (fun _ _ _ _ h => h)) (va_cons (ve_var (pv 1)) va_nil)) (fun _ _ _ => .nil))))))))))), ?_⟩
    walk_at "in"
    walk_at "gg"
    refine ⟨a, ns, rfl, ha, fun b sc ms H1 _ _ e1 hb => ?_⟩
    have hT1 := tabs_ex0 e1 hT
    walk_at "gg"
    refine ⟨bagC K b sc ms, [b], H1, List.mem_singleton.mpr rfl, ⟨b, sc, ms, rfl⟩, [], [], _, 0, { nx := fun _ _ => False, rt := fun d _ => d = .bl true }, mid_rel (N := 1) (x := some (.ref a)) hb hT1 (by decide) rfl (List.mem_singleton.mpr rfl), ?_, ?_⟩
    rotate_left
    · exact ⟨fun _ _ _ _ _ _ h => h.elim, fun _ _ _ _ _ _ h => h.elim, fun _ _ _ _ _ _ h => h.elim, fun v H' d n' r hd => by
        subst hd
        cases r.dat
        exact hQ H'⟩
    dsimp only [List.replicate]
    walk_at "vy"
    refine VF.y_loop (fun i τ n' => n' ≤ 2500 * i ∧ ∃ o2 : Option SV, τ = [none, some (.d .bag), o2]) ⟨by omega, none, rfl⟩ ?_ ?_
    · rintro i d τ n' hi ⟨hn', o2, rfl⟩
      have hi2 : i < 2 := by
        have := (List.getElem?_eq_some_iff.mp hi).1
        rw [rngD_len] at this
        exact this
      walk_at "vy"
      refine y_ratios (by omega) fun n1 hn1 => ?_
      walk_at "vy"
      refine y_words (by omega) fun n2 hn2 => ?_
      walk_at "vy"
      refine y_judged (by omega) fun n3 hn3 => ?_
      walk_at "vy"
      exact ⟨by omega, _, rfl⟩
    rintro τ n' ⟨hn', o2, rfl⟩
    rw [rngD_len] at hn'
    have hn' : n' ≤ 5000 := hn'
    walk_at "vy"
    refine y_more (by omega) fun n1 hn1 => ?_
    walk_at "vy"
    refine y_refR (by omega) fun n2 hn2 => ?_
    walk_at "vy"
    refine y_refW (by omega) fun n3 hn3 => ?_
    walk_at "vy"
    rfl
end
end BF
/-! ## the law at the head -/
namespace BF
open PySem PySem.Spec PyProof.Rows L2
theorem law_at {w : World} {K : PySem.W.Frag} {h : Heap} {mg : Str → Option Value} (l : PySem.W.OpenLaw) (X : K.In h) (G : h.Ns mainGlobals mg) (c : He.SaysX fa fn [] tf more w h K) : LamX.LawAtS l w K (L2.CX l.prog w) 16 63 "_law_script" mg (He.ga K "law") h := by
  have T := tx_of X G c
  have hb := (F_law T).bindsA (ps := ["_law_script"]) fun _ _ _ _ _ _ us hl => match us, hl with | [_], _ => rfl
  refine ⟨fdOf K ("law", none), tf.map (He.cT K), spLaw K, fun p hp => ?_, fun p hp => ?_, fun p hp => ?_, fun s u => hb s [u] rfl, fun H a ns _ _ hH hS => ⟨a, ns, rfl, rfl, hS, fun p hp => ?_, fun _ => rfl⟩, fun base _ _ hTB => ok_law T fun p hp => hTB _ (List.mem_map.mpr ⟨p, hp, rfl⟩)⟩
  · obtain ⟨q, hq, rfl⟩ := List.mem_map.mp hp
    exact c.empty q hq
  · obtain ⟨q, hq, rfl⟩ := List.mem_map.mp hp
    exact c.out q hq
  · obtain ⟨q, hq, rfl⟩ := List.mem_map.mp hp
    exact PySem.W.codeHd_of_K X (c.hd q hq)
  · have hp2 : p ∈ tf.map fun p => ((He.cT K p).2, (p.1 ++ ".<locals>." ++ "<lambda>" : Str)) := hp
    obtain ⟨q, hq, rfl⟩ := List.mem_map.mp hp2
    exact LamX.TabS.nil (hH _ (List.mem_map.mpr ⟨q, hq, rfl⟩))
end BF
/-! ## the end -/
theorem PySem.Challenge.cw_borderflow_k01_ratios_and_words_holds : PySem.Challenge.rw_borderflow_k01_ratios_and_words.Holds := by
  exact BF.end_top fun l X G c => BF.law_at l X G c
