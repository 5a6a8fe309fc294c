import PyProof.Rows.All
import Wide.All
import OpenK.AllK
import Wide.FinOn
import HandS.ForMost
import HandS.Property
import HandS.IsInst
import HandS.Defaults
import HandS.MakeKw
import HandS.WideBits
import HandS.TupAny
import HandS.Walk
import HandS.Deep
import HandS.OwnEq
import HandS.HeadHook4
import KE.KOpsOwn
import KE.KCallOwn
import HandS.Style
import HandS.TryOnly
import HandS.RaiseMore
import KE.DatumOrd
import PyProof.Rows.StrRev
import HandS.Strs
import PyProof.ListStr
import HandS.Conv
import HandS.More
import PyProof.StrLawsIn
import HandS.ClsMeth
import HandS.HeadNt
import HandS.Head0
import HandS.Head1
import HandS.Head2
import HandS.HeadEnd
import HandS.Star
import HandS.TryMany
import HandS.ExcCtx
import HandS.ExcInit
import HandS.ExcField
import HandS.Hot
import HandS.HotCalls
import PyProof.ExcBaseAll.ArithmeticError
import PyProof.ExcBaseAll.LookupError
import KE.KExcInit
import OpenK.KWalk
import KE.GoesMore
import HandS.DictComp
import HandS.MakeKwOnly
import HandS.List
import HandS.Exc
import HandS.ExcIs
import KE.KExcIs
import HandS.Lambda
import HandS.EndTab
import HandS.NestedK
import HandS.SetTxtIn
import PyProof.Rows.Range3
import PyProof.CollectStr
import PyProof.TupleOfSeq
import HandS.Wide
import PyProof.TupleOfStr
import PySem.Challenge.RW_wherebegun_k01_limits_and_errors
set_option Elab.async false
set_option linter.all false
set_option maxRecDepth 100000
set_option maxHeartbeats 4000000
namespace WB
open PySem PySem.Spec PyProof.Rows L2
section
variable {X : Cx} {CX : CXT} {k : Nat} {f C : Addr} {fd : FuncData} {ps : List Str} {sp : Sp} {dvs : List V} {ds : List Value} {E : XK}
def rStrO (C : Addr) (sp : Sp) (E : XK) : List V → Hp → VK → Prop := fun xs H Q => ∃ a dx fs, xs = [.ref a] ∧ H a = some (.ins C dx fs) ∧ sp [.ref a] H (fun z H' => ∃ y, z = .str y ∧ Q z H') E
def rEqO (C : Addr) (sp : Sp) (E : XK) : R2 := fun x y H Q => ∃ a dx fs b dy gs, x = .ref a ∧ y = .ref b ∧ H a = some (.ins C dx fs) ∧ H b = some (.ins C dy gs) ∧ sp [x, y] H (fun z H' => ∃ c, z = .bl c ∧ Q z H') E
end
end WB
namespace WB
open PySem PySem.Spec PyProof.Rows L2
def S (l : List Nat) : Str := ⟨l.toArray⟩
theorem S_cps (l : List Nat) : (S l).cps.toList = l := by simp [S]
theorem S_len (l : List Nat) : (S l).length = l.length := by simp [S, Str.length]
theorem S_inj {a b : List Nat} (h : S a = S b) : a = b := by
  have := congrArg (fun z : Str => z.cps.toList) h
  simpa [S] using this
def rAddI : R2 := rI0 fun i j => .int (i + j)
def rSubI : R2 := rI0 fun i j => .int (i - j)
def rMulI : R2 := rI CMul fun i j => .int (i * j)
def rDivI : R2 := rI CDiv fun i j => .int (i / j)
def rModI : R2 := rI (fun _ j => 0 < j) fun i j => .int (i % j)
def rPowI : R2 := rI CPow fun i j => .int (i ^ j.toNat)
def rLtI : R2 := rI0 fun i j => .bl (decide (i < j))
def rLeI : R2 := rI0 fun i j => .bl (decide (i ≤ j))
def rGtI : R2 := rI0 fun i j => .bl (decide (j < i))
def rGeI : R2 := rI0 fun i j => .bl (decide (j ≤ i))
def rNegI : V → Hp → VK → Prop := rU fun i => .int (-i)
def rLenV (K : PySem.W.Frag) : List V → Hp → VK → Prop := fun xs H Q => ∃ x n, xs = [x] ∧ LenV K x H n ∧ Q (.int n) H
def rAbsI : List V → Hp → VK → Prop := fun xs H Q => ∃ i, xs = [.int i] ∧ Q (.int (if i < 0 then -i else i)) H
def rIntI : List V → Hp → VK → Prop := fun xs H Q => (∃ i, xs = [.int i] ∧ Q (.int i) H) ∨ ∃ k, xs = [.bl k] ∧ Q (.int (if k then 1 else 0)) H
def rMin2 : List V → Hp → VK → Prop := fun xs H Q => ∃ i j, xs = [.int i, .int j] ∧ Q (.int (if j < i then j else i)) H
def rMax2 : List V → Hp → VK → Prop := fun xs H Q => ∃ i j, xs = [.int i, .int j] ∧ Q (.int (if j > i then j else i)) H
def rDivmod : List V → Hp → VK → Prop := fun xs H Q => ∃ i j, xs = [.int i, .int j] ∧ CDivP i j ∧ ∀ p, H p = none → Q (.ref p) (upd H p (.tup [.int (i / j), .int (i % j)]))
def rInSg : R2 := fun x y H Q => ∃ (c : Nat) (z : Str), x = .str ⟨#[c]⟩ ∧ y = .str z ∧ Q (.bl (decide (c ∈ z.cps.toList))) H
def rNotInSg : R2 := fun x y H Q => ∃ (c : Nat) (z : Str), x = .str ⟨#[c]⟩ ∧ y = .str z ∧ Q (.bl (!decide (c ∈ z.cps.toList))) H
def rIsN1 : R2 := fun x y H Q => y = .non ∧ Q (.bl (decide (x = .non))) H
def rNotN1 : R2 := fun x y H Q => y = .non ∧ Q (.bl (!decide (x = .non))) H
section
variable {X : Cx}
theorem pe_globI {x : Str} {i : Int} {pos : Pos} (hg : Gl X x) (hm : ∃ t, X.mg x = some (.int i t)) (hd : (x == ("__debug__" : Str)) = false := by decide) : PE X (.Name x pos) (tC (.int i)) := by
  obtain ⟨t, h⟩ := hm
  exact pe_glob hg h ⟨t, rfl⟩ hd
def rAddS : R2 := fun x y H Q => ∃ a b, x = .str (S a) ∧ y = .str (S b) ∧ a.length + b.length ≤ sizeLine ∧ Q (.str (S (a ++ b))) H
end
end WB
namespace WB
open PySem PySem.Spec PyProof.Rows L2
def minL (x : List Nat) (xs : List (List Nat)) : List Nat := xs.foldl (fun a y => if decide (y < a) = true then y else a) x
abbrev vS (l : List Nat) : V := .str (S l)
section
variable {X : Cx}
def tRevS (te : TE) : TE := fun σ H Q => te σ H fun x H1 => ∃ l : List Nat, x = vS l ∧ l.length ≤ sizeLine ∧ Q (vS l.reverse) H1
variable {CX : CXT} {k : Nat} {f C : Addr} {fd : FuncData} {ps : List Str} {sp : Sp} {E : XK}
end
end WB
namespace WB
open PySem PySem.Spec PyProof.Rows L2
abbrev St := L2.St
def Ex (m : List Addr) (H H' : Hp) : Prop := ∀ b o, b ∉ m → H b = some o → H' b = some o
section
variable {m m' : List Addr} {H H' H1 H2 : Hp} {a p : Addr} {o u : HO} {K : PySem.W.Frag} {xs : List V}
theorem Ex.rfl : Ex m H H := fun _ _ _ h => h
theorem Ex.trans (a : Ex m H H1) (b : Ex m H1 H2) : Ex m H H2 := fun x o n h => b x o n (a x o n h)
theorem Ex.snoc (b : Ex m H1 H2) (a : Ex m H H1) : Ex m H H2 := a.trans b
theorem Ex.wide (e : Ex [] H H') : Ex m H H' := fun b o _ h => e b o (by simp) h
theorem Ex.snocW (b : Ex [] H1 H2) (a : Ex m H H1) : Ex m H H2 := a.trans b.wide
theorem Ex.new (h : H p = none) : Ex m H (upd H p o) := fun a u _ e => by rw [upd_ne (ne_of_none e h)]; exact e
theorem Ex.put (hp : p ∈ m) : Ex m H (upd H p o) := fun a u n e => by rw [upd_ne (fun z => n (by rw [z]; exact hp))]; exact e
theorem Ex.get (e : Ex m H H') (n : a ∉ m) (h : H a = some o) : H' a = some o := e a o n h
theorem Ex.get0 (e : Ex [] H H') (h : H a = some o) : H' a = some o := e a o (by simp) h
theorem Ex.rd (e : Ex m H H') (n : a ∉ m) (h : Rd H a u) : Rd H' a u := by
  rcases h with h | ⟨ob, h⟩
  · exact .inl (e a _ n h)
  · exact .inr ⟨ob, e a _ n h⟩
theorem Ex.sqL (e : Ex m H H') (n : a ∉ m) (h : SqL K H a xs) : SqL K H' a xs := by
  rcases h with h | h
  · exact .inl (e.rd n h)
  · exact .inr h
theorem Ex.sqT (e : Ex m H H') (n : a ∉ m) (h : SqT K H a xs) : SqT K H' a xs := by
  rcases h with h | h
  · exact .inl (e.rd n h)
  · exact .inr h
theorem Ex.free (e : Ex [] H H') (h : H' p = none) : H p = none := by
  cases q : H p with
  | none => rfl
  | some o => rw [e p o (by simp) q] at h; cases h
end
def FldG (K : PySem.W.Frag) (f : Str) (x : V) (H : Hp) (Q : VK) : Prop := ∃ a C dx fs v, x = .ref a ∧ H a = some (.ins C dx fs) ∧ Cls K C ∧ NoAttr K C f ∧ fs.lookup f = some v ∧ Q v H
def PropG (C : Addr) (sp : Sp) (dvs : List V) (E : XK) (x : V) (H : Hp) (Q : VK) : Prop := ∃ a dx fs, x = .ref a ∧ H a = some (.ins C dx fs) ∧ sp (.ref a :: dvs) H Q E
def MakeG (C : Addr) (sp : Sp) (dvs : List V) (E : XK) (vs : List V) (H1 : Hp) (Q : VK) : Prop := ∀ x dx, H1 x = none → H1 dx = none → dx ≠ x → sp (.ref x :: (vs ++ dvs)) (upd (upd H1 dx (.own x)) x (.ins C dx [])) (fun v H2 => v = .non ∧ Q (.ref x) H2) E
def MethG (C : Addr) (m : Str) (sp : Sp) (dvs : List V) (E : XK) (t : TA) (σ : St) (x : V) (H1 : Hp) (Q : VK) : Prop := ∃ a dx fs, x = .ref a ∧ H1 a = some (.ins C dx fs) ∧ fs.lookup m = none ∧ t σ H1 fun vs H2 => sp (x :: (vs ++ dvs)) H2 Q E
def RevG (x : V) (H : Hp) (Q : VK) : Prop := ∃ l : List Nat, x = vS l ∧ l.length ≤ sizeLine ∧ Q (vS l.reverse) H
def SetG (K : PySem.W.Frag) (f : Str) (y x : V) (H : Hp) (R : Hp → Prop) : Prop := ∃ a C dx fs, x = .ref a ∧ H a = some (.ins C dx fs) ∧ Cls K C ∧ NoAttr K C f ∧ fs.length < 1000 ∧ R (upd H a (.ins C dx (putF f y fs)))
def Al (o : HO) (n : Nat) (H : Hp) (Q : VK) : Prop := n ≤ sizeLine ∧ ∀ p, H p = none → Q (.ref p) (upd H p o)
section
variable {σ : St} {H : Hp} {Q : VK} {ta tb tc te : TE} {t u : TT} {tr : TA} {v x y : V} {r r' : R2} {i : Nat} {K : PySem.W.Frag} {R : Bool → Hp → Prop} {A B : Prop}
theorem s_var (h : σ[i]? = some (some v)) (k : Q v H) : tVar i σ H Q := ⟨v, h, k⟩
theorem s_c (k : Q v H) : tC v σ H Q := k
theorem s_cS {z : Str} {l : List Nat} (e : z = S l) (k : Q (vS l) H) : tC (.str z) σ H Q := by rw [e]; exact k
theorem s_op (k : ta σ H fun x H1 => tb σ H1 fun y H2 => r x y H2 Q) : tOp r ta tb σ H Q := k
theorem s_un {r : V → Hp → VK → Prop} (k : ta σ H fun x H1 => r x H1 Q) : tUn r ta σ H Q := k
theorem s_cb {r : List V → Hp → VK → Prop} (k : tr σ H fun vs H1 => r vs H1 Q) : tCB r tr σ H Q := k
theorem s_nil {R : List V → Hp → Prop} (k : R [] H) : tNil σ H R := k
theorem s_cons {R : List V → Hp → Prop} (k : ta σ H fun x H1 => tr σ H1 fun xs H2 => R (x :: xs) H2) : tCons ta tr σ H R := k
theorem s_call {sp : Sp} {dvs : List V} {E : XK} (k : tr σ H fun vs H1 => sp (vs ++ dvs) H1 Q E) : tCall sp dvs E tr σ H Q := k
theorem s_tup (k : tr σ H fun xs H1 => Al (.tup xs) xs.length H1 Q) : tTup tr σ H Q := k
theorem s_lst (k : tr σ H fun xs H1 => Al (.lst xs) xs.length H1 Q) : tLst tr σ H Q := k
theorem s_alloc {n : Nat} {o : HO} (h : n ≤ sizeLine) (k : ∀ p H2, H p = none → Ex [] H H2 → H2 p = some o → Q (.ref p) H2) : Al o n H Q :=
  ⟨h, fun p hp => k p _ hp (Ex.new hp) upd_same⟩
theorem s_new {o : HO} (k : ∀ p H2, H p = none → Ex [] H H2 → H2 p = some o → Q (.ref p) H2) : ∀ p, H p = none → Q (.ref p) (upd H p o) :=
  fun p hp => k p _ hp (Ex.new hp) upd_same
theorem s_not (k : t σ H fun c H1 => R (!c) H1) : tNot t σ H R := k
theorem s_and (k : t σ H fun c H1 => if c = true then u σ H1 R else R false H1) : tAnd t u σ H R := k
theorem s_or (k : t σ H fun c H1 => if c = true then R true H1 else u σ H1 R) : tOr t u σ H R := k
theorem s_test (k : te σ H fun x H' => ∃ k, x = .bl k ∧ R k H') : tTest te σ H R := k
theorem s_tB (k : te σ H fun x H' => ∃ k, x = .bl k ∧ R k H') : tB te σ H R := k
theorem s_blQ {b : Bool} {P : Bool → Prop} (k : P b) : ∃ c, V.bl b = .bl c ∧ P c := ⟨b, rfl, k⟩
theorem s_andV (k : ta σ H fun x H1 => ∃ c, x = .bl c ∧ if c = true then tb σ H1 Q else Q (.bl false) H1) : tAndV ta tb σ H Q := k
theorem s_orV (k : ta σ H fun x H1 => ∃ c, x = .bl c ∧ if c = true then Q (.bl true) H1 else tb σ H1 Q) : tOrV ta tb σ H Q := k
theorem s_notV (k : ta σ H fun x H1 => ∃ c, x = .bl c ∧ Q (.bl (!c)) H1) : tNotV ta σ H Q := k
theorem s_ifE (k : t σ H fun c H1 => if c = true then ta σ H1 Q else tb σ H1 Q) : tIf t ta tb σ H Q := k
theorem s_yes (k : R true H) : tYes σ H R := k
theorem s_chain (k : ta σ H fun x H1 => tb σ H1 fun y H2 => r x y H2 fun z H3 => ∃ k, z = .bl k ∧ (if k = true then tc σ H3 fun w' H4 => r' y w' H4 Q else Q (.bl false) H3)) : tChain r r' ta tb tc σ H Q := k
theorem s_T {b : Bool} (h : b = true) (k : A) : if b = true then A else B := by rw [if_pos h]; exact k
theorem s_F {b : Bool} (h : b = false) (k : B) : if b = true then A else B := by rw [if_neg (by rw [h]; decide)]; exact k
theorem s_2 {b : Bool} (k1 : b = true → A) (k2 : b = false → B) : if b = true then A else B := by
  cases b with
  | true => exact s_T rfl (k1 rfl)
  | false => exact s_F rfl (k2 rfl)
theorem s_nT (k : B) : if (!true) = true then A else B := s_F rfl k
theorem s_nF (k : A) : if (!false) = true then A else B := s_T rfl k
theorem s_Td {P : Prop} [Decidable P] (h : P) (k : A) : if decide P = true then A else B := s_T (decide_eq_true h) k
theorem s_Fd {P : Prop} [Decidable P] (h : ¬ P) (k : B) : if decide P = true then A else B := s_F (decide_eq_false h) k
theorem s_nTd {P : Prop} [Decidable P] (h : ¬ P) (k : A) : if (!decide P) = true then A else B := s_T (by rw [decide_eq_false h]; rfl) k
theorem s_nFd {P : Prop} [Decidable P] (h : P) (k : B) : if (!decide P) = true then A else B := s_F (by rw [decide_eq_true h]; rfl) k
theorem s_nB {b : Bool} (h : b = true) (k : B) : if (!b) = true then A else B := s_F (by rw [h]; rfl) k
theorem s_nA {b : Bool} (h : b = false) (k : A) : if (!b) = true then A else B := s_T (by rw [h]; rfl) k
theorem s_addI {i j : Int} (k : Q (.int (i + j)) H) : rAddI (.int i) (.int j) H Q := ⟨i, j, rfl, rfl, k⟩
theorem s_subI {i j : Int} (k : Q (.int (i - j)) H) : rSubI (.int i) (.int j) H Q := ⟨i, j, rfl, rfl, k⟩
theorem s_mulI {i j : Int} (h : CMul i j) (k : Q (.int (i * j)) H) : rMulI (.int i) (.int j) H Q := ⟨i, j, rfl, rfl, h, k⟩
theorem s_divI {i j : Int} (h : CDiv i j) (k : Q (.int (i / j)) H) : rDivI (.int i) (.int j) H Q := ⟨i, j, rfl, rfl, h, k⟩
theorem s_modI {i j : Int} (h : 0 < j) (k : Q (.int (i % j)) H) : rModI (.int i) (.int j) H Q := ⟨i, j, rfl, rfl, h, k⟩
theorem s_powI {i j : Int} (h : CPow i j) (k : Q (.int (i ^ j.toNat)) H) : rPowI (.int i) (.int j) H Q := ⟨i, j, rfl, rfl, h, k⟩
theorem s_ltI {i j : Int} (k : Q (.bl (decide (i < j))) H) : rLtI (.int i) (.int j) H Q := ⟨i, j, rfl, rfl, k⟩
theorem s_leI {i j : Int} (k : Q (.bl (decide (i ≤ j))) H) : rLeI (.int i) (.int j) H Q := ⟨i, j, rfl, rfl, k⟩
theorem s_gtI {i j : Int} (k : Q (.bl (decide (j < i))) H) : rGtI (.int i) (.int j) H Q := ⟨i, j, rfl, rfl, k⟩
theorem s_geI {i j : Int} (k : Q (.bl (decide (j ≤ i))) H) : rGeI (.int i) (.int j) H Q := ⟨i, j, rfl, rfl, k⟩
theorem s_negI {i : Int} (k : Q (.int (-i)) H) : rNegI (.int i) H Q := ⟨i, rfl, k⟩
theorem s_absI {i : Int} (k : Q (.int (if i < 0 then -i else i)) H) : rAbsI [.int i] H Q := ⟨i, rfl, k⟩
theorem s_intI {i : Int} (k : Q (.int i) H) : rIntI [.int i] H Q := .inl ⟨i, rfl, k⟩
theorem s_min2 {i j : Int} (k : Q (.int (if j < i then j else i)) H) : rMin2 [.int i, .int j] H Q := ⟨i, j, rfl, k⟩
theorem s_max2 {i j : Int} (k : Q (.int (if j > i then j else i)) H) : rMax2 [.int i, .int j] H Q := ⟨i, j, rfl, k⟩
theorem s_addS {a b : List Nat} (h : a.length + b.length ≤ sizeLine) (k : Q (vS (a ++ b)) H) : rAddS (vS a) (vS b) H Q := ⟨a, b, rfl, rfl, h, k⟩
theorem s_eqI {i j : Int} (k : Q (.bl (decide (i = j))) H) : rEq (.int i) (.int j) H Q := ⟨rfl, by
  have : decide (V.int i = V.int j) = decide (i = j) := by simp
  rw [this]; exact k⟩
theorem s_neI {i j : Int} (k : Q (.bl (!decide (i = j))) H) : rNe (.int i) (.int j) H Q := ⟨rfl, by
  have : decide (V.int i = V.int j) = decide (i = j) := by simp
  rw [this]; exact k⟩
theorem vS_eq {a b : List Nat} : (vS a = vS b) ↔ a = b := ⟨fun h => S_inj (V.str.inj h), fun h => by rw [h]⟩
theorem s_eqS {a b : List Nat} (k : Q (.bl (decide (a = b))) H) : rEq (vS a) (vS b) H Q := ⟨rfl, by
  have : decide (V.str (S a) = V.str (S b)) = decide (a = b) := by simp only [show (V.str (S a) = V.str (S b)) ↔ a = b from vS_eq]
  rw [this]; exact k⟩
theorem s_neS {a b : List Nat} (k : Q (.bl (!decide (a = b))) H) : rNe (vS a) (vS b) H Q := ⟨rfl, by
  have : decide (V.str (S a) = V.str (S b)) = decide (a = b) := by simp only [show (V.str (S a) = V.str (S b)) ↔ a = b from vS_eq]
  rw [this]; exact k⟩
theorem s_inSg {c : Nat} {l : List Nat} (k : Q (.bl (decide (c ∈ l))) H) : rInSg (vS [c]) (vS l) H Q := ⟨c, S l, rfl, rfl, by rw [S_cps]; exact k⟩
theorem s_notInSg {c : Nat} {l : List Nat} (k : Q (.bl (!decide (c ∈ l))) H) : rNotInSg (vS [c]) (vS l) H Q := ⟨c, S l, rfl, rfl, by rw [S_cps]; exact k⟩
theorem s_lenS {l : List Nat} (h : l.length ≤ sizeLine) (k : Q (.int l.length) H) : rLenV K [vS l] H Q := ⟨vS l, l.length, rfl, ⟨by rw [S_len]; exact h, (S_len l).symm⟩, k⟩
theorem s_lenL {a : Addr} {xs : List V} (h : SqL K H a xs) (k : Q (.int xs.length) H) : rLenV K [.ref a] H Q := ⟨_, _, rfl, .inl ⟨xs, h, rfl⟩, k⟩
theorem s_lenT {a : Addr} {xs : List V} (h : SqT K H a xs) (k : Q (.int xs.length) H) : rLenV K [.ref a] H Q := ⟨_, _, rfl, .inr ⟨xs, h, rfl⟩, k⟩
theorem s_isiII {i : Int} (k : Q (.bl true) H) : rIsi K [.int i, .ty "int"] H Q := ⟨_, _, _, _, _, rfl, .ty _, .base (.int _), kit_ty (by decide +kernel), k⟩
theorem s_isiIB {i : Int} (k : Q (.bl false) H) : rIsi K [.int i, .ty "bool"] H Q := ⟨_, _, _, _, _, rfl, .ty _, .base (.int _), kit_ty (by decide +kernel), k⟩
theorem s_isiSS {z : Str} (k : Q (.bl true) H) : rIsi K [.str z, .ty "str"] H Q := ⟨_, _, _, _, _, rfl, .ty _, .base (.str _), kit_ty (by decide +kernel), k⟩
theorem s_all {a : Addr} {bs : List Bool} (h : SqL K H a (bs.map V.bl)) (k : Q (.bl (bs.all id)) H) : rAll K [.ref a] H Q := ⟨a, bs, rfl, h, k⟩
theorem s_cat {a b : Addr} {xs ys : List V} (h1 : H a = some (.lst xs)) (h2 : H b = some (.lst ys)) (hl : xs.length + ys.length ≤ sizeLine) (k : ∀ p H2, H p = none → Ex [] H H2 → H2 p = some (.lst (xs ++ ys)) → Q (.ref p) H2) : rCat (.ref a) (.ref b) H Q := ⟨a, b, xs, ys, rfl, rfl, h1, h2, hl, s_new k⟩
theorem s_divmod {i j : Int} (h : CDivP i j) (k : ∀ p H2, H p = none → Ex [] H H2 → H2 p = some (.tup [.int (i / j), .int (i % j)]) → Q (.ref p) H2) : rDivmod [.int i, .int j] H Q := ⟨i, j, rfl, h, s_new k⟩
theorem s_ixL {a : Addr} {xs : List V} {n : Int} (h : SqL K H a xs) (hi : atI xs n = some v) (k : Q v H) : rIxL K (.ref a) (.int n) H Q := ⟨a, xs, n, v, rfl, rfl, h, hi, k⟩
theorem s_ixT {a : Addr} {xs : List V} {n : Int} (h : SqT K H a xs) (hi : atI xs n = some v) (k : Q v H) : rIxT K (.ref a) (.int n) H Q := ⟨a, xs, n, v, rfl, rfl, h, hi, k⟩
theorem s_revS (k : te σ H fun x H1 => RevG x H1 Q) : tRevS te σ H Q := k
theorem s_revS1 {l : List Nat} (h : l.length ≤ sizeLine) (k : Q (vS l.reverse) H) : RevG (vS l) H Q := ⟨l, rfl, h, k⟩
def cut (l : List Nat) (lo hi : Option Int) : List Nat := (l.drop (HT.sIx l.length 0 lo)).take (HT.sIx l.length l.length hi - HT.sIx l.length 0 lo)
theorem s_sl {r : V → Option Int → Option Int → Hp → VK → Prop} {tl th : TO} (k : te σ H fun x H1 => tl σ H1 fun l H2 => th σ H2 fun u H3 => r x l u H3 Q) : tSl r te tl th σ H Q := k
theorem s_noPart {R : Option Int → Hp → Prop} (k : R none H) : tNoPart σ H R := k
theorem s_part {R : Option Int → Hp → Prop} (k : te σ H fun x H1 => ∃ i, x = .int i ∧ R (some i) H1) : tPart te σ H R := k
theorem s_int1 {n : Int} {P : Int → Prop} (k : P n) : ∃ i, V.int n = .int i ∧ P i := ⟨n, rfl, k⟩
theorem s_slS {l : List Nat} {lo hi : Option Int} (h : l.length ≤ sizeLine) (k : Q (vS (cut l lo hi)) H) : rSlS (vS l) lo hi H Q := ⟨S l, rfl, by rw [S_len]; exact h, by
  have e : cutS (S l) lo hi = S (cut l lo hi) := by
    unfold cutS cut
    rw [S_len, S_cps]
    rfl
  rw [e]
  exact k⟩
theorem s_slL {a : Addr} {xs : List V} {lo hi : Option Int} (h : SqL K H a xs) (k : ∀ p H2, H p = none → Ex [] H H2 → H2 p = some (.lst (cutV xs lo hi)) → Q (.ref p) H2) : rSlL K (.ref a) lo hi H Q := ⟨a, xs, rfl, h, s_new k⟩
theorem s_M1 {r : V → List V → Hp → VK → Prop} (k : ta σ H fun x H1 => (∃ a, x = .str a) ∧ te σ H1 fun y H2 => r x [y] H2 Q) : tM1 r ta te σ H Q := k
theorem s_isStr {z : Str} {B : Prop} (k : B) : (∃ a, V.str z = .str a) ∧ B := ⟨⟨z, rfl⟩, k⟩
theorem s_fldE {f : Str} (k : ta σ H fun x H1 => FldG K f x H1 Q) : tFld K ta f σ H Q := k
theorem s_propE {C : Addr} {sp : Sp} {dvs : List V} {E : XK} (k : ta σ H fun x H1 => PropG C sp dvs E x H1 Q) : tProp C sp dvs E ta σ H Q := k
theorem s_makeE {C : Addr} {sp : Sp} {dvs : List V} {E : XK} (k : tr σ H fun vs H1 => MakeG C sp dvs E vs H1 Q) : tMake C sp dvs E tr σ H Q := k
theorem s_methE {C : Addr} {m : Str} {sp : Sp} {dvs : List V} {E : XK} (k : ta σ H fun x H1 => MethG C m sp dvs E tr σ x H1 Q) : tMeth C m sp dvs E ta tr σ H Q := k
end
theorem s_setL {a : Addr} {xs : List V} {j : Nat} {v : V} {H : Hp} {R : Hp → Prop} {n : Int} (h : H a = some (.lst xs)) (hj : ixN xs.length n = some j) (k : ∀ H2, Ex [a] H H2 → H2 a = some (.lst (xs.set j v)) → R H2) : rSetL (.ref a) (.int n) v H R := ⟨a, xs, n, j, rfl, rfl, h, hj, k _ (Ex.put (by simp)) upd_same⟩
theorem s_gSub {ta tb : TE} {t : TSet} {v : V} {σ : St} {H : Hp} {R : St → Hp → Prop} (k : ta σ H fun o H1 => tb σ H1 fun i H2 => t o i v H2 fun H3 => R σ H3) : gSub ta tb t v σ H R := k
theorem s_gTup {K : PySem.W.Frag} {a : Addr} {xs : List V} {n : Nat} {t : TGs} {σ : St} {H : Hp} {R : St → Hp → Prop} (h : SqT K H a xs) (hn : xs.length = n) (k : t xs σ H R) : gTup K n t (.ref a) σ H R := ⟨a, xs, rfl, h, hn, k⟩
theorem s_gLst {K : PySem.W.Frag} {a : Addr} {xs : List V} {n : Nat} {t : TGs} {σ : St} {H : Hp} {R : St → Hp → Prop} (h : SqL K H a xs) (hn : xs.length = n) (k : t xs σ H R) : gLst K n t (.ref a) σ H R := ⟨a, xs, rfl, h, hn, k⟩
theorem s_gCons {t : TG} {u : TGs} {v : V} {r : List V} {σ : St} {H : Hp} {R : St → Hp → Prop} (k : t v σ H fun σ' H' => u r σ' H' R) : gCons t u (v :: r) σ H R := ⟨v, r, rfl, k⟩
theorem s_gNil {σ : St} {H : Hp} {R : St → Hp → Prop} (k : R σ H) : gNil [] σ H R := ⟨rfl, k⟩
section
variable {n b c : St → Hp → Prop} {rt : VK} {σ : St} {H : Hp} {te : TE} {tt : TT} {t u : TS} {i : Nat} {K : PySem.W.Frag}
theorem s_seq (k : t ⟨u ⟨n, rt, b, c⟩, rt, b, c⟩ σ H) : tSeq t u ⟨n, rt, b, c⟩ σ H := k
theorem s_sfld {ta tv : TE} {f : Str} (k : tv σ H fun y H1 => ta σ H1 fun x H2 => SetG K f y x H2 (n σ)) : sFld K ta tv f ⟨n, rt, b, c⟩ σ H := k
theorem s_next (k : n σ H) : tNext ⟨n, rt, b, c⟩ σ H := k
theorem s_asg {g : TG} (k : te σ H fun x H1 => g x σ H1 n) : tAsg te g ⟨n, rt, b, c⟩ σ H := k
theorem s_gName {v : V} {R : St → Hp → Prop} (k : R (σ.set i (some v)) H) : gName i v σ H R := k
theorem s_ret (k : te σ H rt) : tRet te ⟨n, rt, b, c⟩ σ H := k
theorem s_drop (k : te σ H fun _ H1 => n σ H1) : tDrop te ⟨n, rt, b, c⟩ σ H := k
theorem s_ifS (k : tt σ H fun q H1 => if q = true then t ⟨n, rt, b, c⟩ σ H1 else u ⟨n, rt, b, c⟩ σ H1) : tIfS tt t u ⟨n, rt, b, c⟩ σ H := k
theorem s_par {i j : Nat} {ta : TA} (k : ta σ H fun vs H1 => ∃ v w, vs = [v, w] ∧ n ((σ.set i (some v)).set j (some w)) H1) : tPar i j ta ⟨n, rt, b, c⟩ σ H := k
theorem s_pair {v w : V} {P : V → V → Prop} (k : P v w) : ∃ v' w', [v, w] = [v', w'] ∧ P v' w' := ⟨v, w, rfl, k⟩
end
end WB
namespace WB
open PySem PySem.Spec PyProof.Rows L2
theorem wipe1 (σ : St) (j : Nat) (x : Option V) : wipe ((wipe σ [j]).set j x) [j] = wipe σ [j] := by
  show ((σ.set j none).set j x).set j none = σ.set j none
  rw [List.set_set, List.set_set]
def LcW (J : It) (g : TG) (tt : TT) (te : TE) (vs : List Nat) (σ : St) (H1 : Hp) (Q : VK) : Prop := ∀ D, H1 D = none → ∃ W : Nat → Nat → Hp → Prop, (∃ m, W 0 m (upd H1 D (.lst []))) ∧ ∀ i m H, W i m H →
  (J.stop i H ∧ Q (.ref D) H) ∨ (J.go i H ∧ ∃ Nx : Hp → Prop, (∀ H', Nx H' → ∃ m', m' < m ∧ W (i + 1) m' H') ∧ ∀ x H', J.yld i H x H' → g x (wipe σ vs) H' fun σ2 H2 => wipe σ2 vs = wipe σ vs ∧ tt σ2 H2 fun b H3 =>
    if b = true then te σ2 H3 fun y H4 => ∃ acc, H4 D = some (.lst acc) ∧ acc.length < sizeLine ∧ Nx (upd H4 D (.lst (acc ++ [y]))) else Nx H3)
theorem s_lc {wi : TI} {g : TG} {tt : TT} {te : TE} {vs : List Nat} {σ : St} {H : Hp} {Q : VK} (k : wi σ H fun J H1 => LcW J g tt te vs σ H1 Q) : tLc wi g tt te vs σ H Q := k
theorem s_rng1 {ta : TA} {σ : St} {H : Hp} {R : It → Hp → Prop} (k : ta σ H fun vs H1 => ∃ j : Int, vs = [.int j] ∧ -(2 ^ 62) ≤ j ∧ j < 2 ^ 62 ∧ R (Itr 0 j.toNat) H1) : iRng1 ta σ H R := k
theorem s_rng1i {j : Int} {C : Int → Prop} (h : -1000000 ≤ j ∧ j ≤ 1000000) (k : C j) : ∃ j' : Int, [V.int j] = [.int j'] ∧ -(2 ^ 62) ≤ j' ∧ j' < 2 ^ 62 ∧ C j' := ⟨j, rfl, by omega, by omega, k⟩
theorem s_rng2 {ta : TA} {σ : St} {H : Hp} {R : It → Hp → Prop} (k : ta σ H fun vs H1 => ∃ i j : Int, vs = [.int i, .int j] ∧ (-(2 ^ 62) ≤ i ∧ i < 2 ^ 62 ∧ -(2 ^ 62) ≤ j ∧ j < 2 ^ 62) ∧ R (Itr i (j - i).toNat) H1) : iRng2 ta σ H R := k
theorem s_rng2i {i j : Int} {C : Int → Int → Prop} (h : -1000000 ≤ i ∧ i ≤ 1000000 ∧ -1000000 ≤ j ∧ j ≤ 1000000) (k : C i j) : ∃ i' j' : Int, [V.int i, V.int j] = [.int i', .int j'] ∧ (-(2 ^ 62) ≤ i' ∧ i' < 2 ^ 62 ∧ -(2 ^ 62) ≤ j' ∧ j' < 2 ^ 62) ∧ C i' j' := ⟨i, j, rfl, by omega, k⟩
theorem s_iStr {te : TE} {σ : St} {H : Hp} {R : It → Hp → Prop} (k : te σ H fun v H1 => ∃ x, v = .str x ∧ R (Its x) H1) : iStr te σ H R := k
theorem s_iStrS {l : List Nat} {C : Str → Prop} (k : C (S l)) : ∃ x, vS l = .str x ∧ C x := ⟨_, rfl, k⟩
theorem s_iList {K : PySem.W.Frag} {te : TE} {σ : St} {H : Hp} {R : It → Hp → Prop} (k : te σ H fun x H1 => ∃ a, x = .ref a ∧ (∃ xs, SqL K H1 a xs) ∧ R (Itl K a) H1) : iList K te σ H R := k
theorem s_iListA {K : PySem.W.Frag} {a : Addr} {xs : List V} {H : Hp} {C : Addr → Prop} (h : SqL K H a xs) (k : C a) : ∃ b, V.ref a = .ref b ∧ (∃ xs, SqL K H b xs) ∧ C b := ⟨a, rfl, ⟨xs, h⟩, k⟩
theorem s_iTup {K : PySem.W.Frag} {te : TE} {σ : St} {H : Hp} {R : It → Hp → Prop} (k : te σ H fun x H1 => ∃ a, x = .ref a ∧ (∃ xs, SqT K H1 a xs) ∧ R (Itt K a) H1) : iTup K te σ H R := k
theorem s_iTupA {K : PySem.W.Frag} {a : Addr} {xs : List V} {H : Hp} {C : Addr → Prop} (h : SqT K H a xs) (k : C a) : ∃ b, V.ref a = .ref b ∧ (∃ xs, SqT K H b xs) ∧ C b := ⟨a, rfl, ⟨xs, h⟩, k⟩
theorem lc_run {J : It} {n : Nat} {G : Hp → Prop} {Y : Nat → Hp → V → Hp → Prop} {g : TG} {tt : TT} {te : TE} {vs : List Nat} {σ : St} {H : Hp} {Q : VK} (w : Walk J n G Y) (hn : n ≤ 100000)
    (m : List Addr) (R : Hp → Prop) (Acc : Nat → List V → Hp → Prop) (hm : ∀ a ∈ m, H a ≠ none) (r0 : R H) (a0 : Acc 0 [] H)
    (rU : ∀ H1 D o, D ∉ m → R H1 → R (upd H1 D o)) (aU : ∀ i acc H1 D o, (H1 D = none ∨ ∃ l, H1 D = some (.lst l)) → Acc i acc H1 → Acc i acc (upd H1 D (.lst o)))
    (hG : ∀ H1, Ex m H H1 → G H1)
    (step : ∀ (i : Nat) (acc : List V) (x : V) (H1 H2 : Hp) (C1 : VK) (C0 : Hp → Prop), i < n → Ex m H H1 → R H1 → Acc i acc H1 → Y i H1 x H2 →
      (∀ y H5, Ex m H1 H5 → R H5 → Acc (i + 1) (acc ++ [y]) H5 → C1 y H5) → (∀ H4, Ex m H1 H4 → R H4 → Acc (i + 1) acc H4 → C0 H4) →
      g x (wipe σ vs) H2 fun σ2 H3 => wipe σ2 vs = wipe σ vs ∧ tt σ2 H3 fun b H4 => if b = true then te σ2 H4 C1 else C0 H4)
    (k : ∀ D H' ys, H D = none → Ex m H H' → R H' → H' D = some (.lst ys) → ys.length ≤ n → Acc n ys H' → Q (.ref D) H') : LcW J g tt te vs σ H Q := by
  intro D hD
  have nD : D ∉ m := fun z => hm D z hD
  refine lc_it w (fun i H1 => Ex m H H1 ∧ R H1 ∧ ∃ acc, H1 D = some (.lst acc) ∧ acc.length ≤ i ∧ Acc i acc H1) ⟨Ex.new hD, rU _ _ _ nD r0, [], upd_same, Nat.le_refl _, aU _ _ _ _ _ (.inl hD) a0⟩ (fun i H1 _ h => hG H1 h.1) ?_ ?_
  · rintro i x H1 H2 hi ⟨e, r, acc, hd, hl, ha⟩ hy
    refine step i acc x H1 H2 _ _ hi e r ha hy (fun y H5 e5 r5 a5 => ?_) (fun H4 e4 r4 a4 => ?_)
    · have hd5 : H5 D = some (.lst acc) := e5 D _ nD hd
      refine ⟨acc, hd5, Nat.lt_of_le_of_lt (Nat.le_trans hl (Nat.le_trans (Nat.le_of_lt hi) hn)) (by decide), ?_, rU _ _ _ nD r5, acc ++ [y], upd_same, by rw [List.length_append]; simp; omega, aU _ _ _ _ _ (.inr ⟨acc, hd5⟩) a5⟩
      intro b o nb hb
      rw [upd_ne (ne_of_none hb hD)]
      exact e5 b o nb (e b o nb hb)
    · exact ⟨e.trans e4, r4, acc, e4 D _ nD hd, by omega, a4⟩
  · rintro H1 ⟨e, r, acc, hd, hl, ha⟩
    exact k D H1 acc hD e r hd hl ha
theorem lc_mapR {n j : Nat} {lo : Int} {te : TE} {σ : St} {H : Hp} {Q : VK} (hn : n ≤ 100000) (val : Nat → V)
    (h : ∀ (i : Nat) (H1 : Hp) (C : VK), i < n → Ex [] H H1 → (∀ H2, Ex [] H1 H2 → C (val i) H2) → te ((wipe σ [j]).set j (some (.int (lo + i)))) H1 C)
    (k : ∀ D H', H D = none → Ex [] H H' → H' D = some (.lst ((List.range n).map val)) → Q (.ref D) H') : LcW (Itr lo n) (gName j) tYes te [j] σ H Q := by
  refine lc_run walk_range hn [] (fun _ => True) (fun i acc _ => acc = (List.range i).map val) (by simp) trivial rfl (fun _ _ _ _ _ => trivial) (fun _ _ _ _ _ _ h => h) (fun _ _ => trivial) ?_ ?_
  · rintro i acc x H1 H2 C1 C0 hi e _ rfl ⟨rfl, rfl⟩ k1 k0
    refine ⟨wipe1 _ _ _, ?_⟩
    refine s_yes ?_
    refine s_T rfl ?_
    refine (h i H2 C1 hi e fun H5 e5 => k1 _ H5 e5 trivial ?_)
    rw [List.range_succ, List.map_append]
    rfl
  · rintro D H' ys hD e _ hd _ rfl
    exact k D H' hD e hd
theorem lc_mapL {K : PySem.W.Frag} {a : Addr} {xs : List V} {j : Nat} {te : TE} {σ : St} {H : Hp} {Q : VK} (hq : SqL K H a xs) (hn : xs.length ≤ 100000) (val : V → V)
    (h : ∀ (i : Nat) (x : V) (H1 : Hp) (C : VK), xs[i]? = some x → Ex [] H H1 → (∀ H2, Ex [] H1 H2 → C (val x) H2) → te ((wipe σ [j]).set j (some x)) H1 C)
    (k : ∀ D H', H D = none → Ex [] H H' → H' D = some (.lst (xs.map val)) → Q (.ref D) H') : LcW (Itl K a) (gName j) tYes te [j] σ H Q := by
  refine lc_run walk_list hn [] (fun _ => True) (fun i acc _ => acc = (xs.take i).map val) (by simp) trivial (by simp) (fun _ _ _ _ _ => trivial) (fun _ _ _ _ _ _ h => h) (fun H1 e => e.sqL (by simp) hq) ?_ ?_
  · rintro i acc x H1 H2 C1 C0 hi e _ rfl ⟨rfl, hx⟩ k1 k0
    refine ⟨wipe1 _ _ _, ?_⟩
    refine s_yes ?_
    refine s_T rfl ?_
    refine (h i x H2 C1 hx e fun H5 e5 => k1 _ H5 e5 trivial ?_)
    rw [List.take_add_one, hx, List.map_append]
    rfl
  · rintro D H' ys hD e _ hd _ rfl
    rw [List.take_length] at hd
    exact k D H' hD e hd
def ForW (J : It) (g : TG) (tb : TS) (D : Ends) (σ : St) (H : Hp) : Prop := ∃ W : Nat → Nat → St → Hp → Prop, (∃ m, W 0 m σ H) ∧ ∀ i m σ H, W i m σ H →
  (J.stop i H ∧ D.nx σ H) ∨ (J.go i H ∧ ∃ N : St → Hp → Prop, (∀ σ' H', N σ' H' → ∃ m', m' < m ∧ W (i + 1) m' σ' H') ∧ ∀ x H', J.yld i H x H' → g x σ H' fun σ2 H2 => tb { D with nx := N, ct := N, bk := D.nx } σ2 H2)
theorem s_for {wi : TI} {g : TG} {tb : TS} {n b c : St → Hp → Prop} {rt : VK} {σ : St} {H : Hp} (k : wi σ H fun J H1 => ForW J g tb ⟨n, rt, b, c⟩ σ H1) : tFor wi g tb ⟨n, rt, b, c⟩ σ H := k
theorem for_run {J : It} {m : Nat} {G : Hp → Prop} {Y : Nat → Hp → V → Hp → Prop} {g : TG} {tb : TS} {n b c : St → Hp → Prop} {rt : VK} {σ : St} {H : Hp} (w : Walk J m G Y) (Pv : Nat → St → Hp → Prop) (h0 : Pv 0 σ H) (hG : ∀ i σ H, i ≤ m → Pv i σ H → G H)
    (hs : ∀ i x σ H H', i < m → Pv i σ H → Y i H x H' → g x σ H' fun σ2 H2 => tb ⟨Pv (i + 1), rt, n, Pv (i + 1)⟩ σ2 H2) (hd : ∀ σ H, Pv m σ H → n σ H) : ForW J g tb ⟨n, rt, b, c⟩ σ H :=
  for_it (D := ⟨n, rt, b, c⟩) w Pv h0 hG hs hd
theorem for_rng {lo : Int} {m : Nat} {g : TG} {tb : TS} {n b c : St → Hp → Prop} {rt : VK} {σ : St} {H : Hp} (Pv : Nat → St → Hp → Prop) (h0 : Pv 0 σ H)
    (hs : ∀ (i : Nat) σ H, i < m → Pv i σ H → g (.int (lo + i)) σ H fun σ2 H2 => tb ⟨Pv (i + 1), rt, n, Pv (i + 1)⟩ σ2 H2) (hd : ∀ σ H, Pv m σ H → n σ H) : ForW (Itr lo m) g tb ⟨n, rt, b, c⟩ σ H := by
  refine for_run walk_range Pv h0 (fun _ _ _ _ _ => trivial) ?_ hd
  rintro i x σ H H' hi hp ⟨rfl, rfl⟩
  exact hs i σ _ hi hp
theorem atI_of {α : Type} {xs : List α} {n : Int} {v : α} (h0 : 0 ≤ n) (h : xs[n.toNat]? = some v) : atI xs n = some v := by
  have h1 : n.toNat < xs.length := (List.getElem?_eq_some_iff.mp h).1
  unfold atI ixN
  rw [if_pos h0, if_pos (by omega)]
  exact h
theorem mem_cutV {xs : List V} {lo hi : Option Int} {x : V} (h : x ∈ cutV xs lo hi) : x ∈ xs := List.mem_of_mem_drop (List.mem_of_mem_take h)
end WB
namespace WB
open PySem PySem.Spec PyProof.Rows L2
def rot (l : List Nat) (i : Nat) : List Nat := l.drop i ++ l.take i
def rots (l : List Nat) : List (List Nat) := (List.range l.length).map (rot l)
def leastT (l : List Nat) : List Nat := match rots l with
  | [] => []
  | x :: xs => minL x xs
abbrev LET : List Nat := [97, 98, 99, 100, 101, 102, 103, 104, 105, 106, 107, 108, 109, 110, 111, 112, 113, 114, 115, 116, 117, 118, 119, 120, 121, 122]
theorem lit_abc : ("abcdefghijklmnopqrstuvwxyz" : Str) = S LET := by decide +kernel
theorem lit_empty : ("" : Str) = S [] := by decide +kernel
def isWord (l s : List Nat) : Bool := decide (1 ≤ l.length ∧ l.length ≤ 600) && l.all fun c => decide (c ∈ s)
def KD : List String := ["int", "bool", "str", "NoneType", "list", "tuple", "dict"]
structure RingK (K : PySem.W.Frag) : Prop where
  cl : Cls K (He.ga K "Ring")
  na : NoAttr K (He.ga K "Ring") "least"
  ty : ∀ (H : Hp) (a dx : Addr) (fs : List (Str × V)), H a = some (.ins (He.ga K "Ring") dx fs) → TyX K H (.ref a) (.ref (He.ga K "Ring"))
  me : PySem.W.kitOne K (.ref (He.ga K "Ring")) (.ref (He.ga K "Ring")) = some true
  no : ∀ n ∈ KD, PySem.W.kitOne K (.type n) (.ref (He.ga K "Ring")) = some false
def RingAt (K : PySem.W.Frag) (H : Hp) (a : Addr) (l : List Nat) : Prop := ∃ dx, H a = some (.ins (He.ga K "Ring") dx [("least", vS l)])
theorem RingAt.ex' {K : PySem.W.Frag} {H H' : Hp} {a : Addr} {l : List Nat} {m : List Addr} (h : RingAt K H a l) (e : Ex m H H') (n : a ∉ m) : RingAt K H' a l := by
  obtain ⟨dx, h⟩ := h
  exact ⟨dx, e a _ n h⟩
theorem RingAt.ex {K : PySem.W.Frag} {H H' : Hp} {a : Addr} {l : List Nat} {m : List Addr} (e : Ex m H H') (n : a ∉ m) (h : RingAt K H a l) : RingAt K H' a l := by
  obtain ⟨dx, h⟩ := h
  exact ⟨dx, e a _ n h⟩
def RingOf (K : PySem.W.Frag) (x y : V) (H : Hp) : Prop := ∃ w a, x = vS w ∧ y = .ref a ∧ RingAt K H a (leastT w)
theorem RingOf.ex {K : PySem.W.Frag} {x y : V} {H H' : Hp} (e : Ex [] H H') (h : RingOf K x y H) : RingOf K x y H' := by
  obtain ⟨w, a, h1, h2, h3⟩ := h
  exact ⟨w, a, h1, h2, h3.ex' e (by simp)⟩
def TextOf (K : PySem.W.Frag) (x y : V) (H : Hp) : Prop := ∃ a l, x = .ref a ∧ y = vS l ∧ RingAt K H a l
theorem TextOf.ex {K : PySem.W.Frag} {x y : V} {H H' : Hp} (e : Ex [] H H') (h : TextOf K x y H) : TextOf K x y H' := by
  obtain ⟨w, a, h1, h2, h3⟩ := h
  exact ⟨w, a, h1, h2, h3.ex' e (by simp)⟩
def Kd (K : PySem.W.Frag) (H : Hp) (v : V) (n : String) : Prop := TyX K H v (.type n) ∧ n ∈ KD
def sp_is_integer (K : PySem.W.Frag) : Sp := fun vs H Q _ => ∃ (v : V) (n : String), vs = [v] ∧ Kd K H v n ∧ Q (.bl (decide (n = "int"))) H
def sp_is_word (K : PySem.W.Frag) : Sp := fun vs H Q _ => ∃ (v : V) (s : List Nat), vs = [v, vS s] ∧ ((∃ l : List Nat, v = vS l ∧ l.length ≤ 10000 ∧ ∀ H', Ex [] H H' → Q (.bl (isWord l s)) H') ∨ (∃ n, Kd K H v n ∧ n ≠ "str" ∧ Q (.bl false) H))
def sp_Ring_text (K : PySem.W.Frag) : Sp := fun vs H Q _ => ∃ (a : Addr) (l : List Nat), vs = [.ref a] ∧ RingAt K H a l ∧ Q (vS l) H
def sp_Ring_str (K : PySem.W.Frag) : Sp := fun vs H Q _ => ∃ (a : Addr) (l : List Nat), vs = [.ref a] ∧ RingAt K H a l ∧ Q (vS l) H
def sp_Ring_eq (K : PySem.W.Frag) : Sp := fun vs H Q _ => ∃ (a : Addr) (v : V), vs = [.ref a, v] ∧ ∃ l, RingAt K H a l ∧ ((∃ b m, v = .ref b ∧ RingAt K H b m ∧ Q (.bl (decide (l = m))) H) ∨ (∃ n, Kd K H v n ∧ Q (.bl false) H))
def PoolAt (H : Hp) (a : Addr) : Prop := ∃ x y z : Int, H a = some (.lst [.int x, .int y, .int z])
def sp_law_cell (K : PySem.W.Frag) : Sp := fun vs H Q _ => ∃ (a : Addr) (ns : List Int) (k : Int), vs = [.ref a, .int k] ∧ SqL K H a (ns.map V.int) ∧ ns.length ≤ 63 ∧ 0 ≤ k ∧ k < 1000 ∧ ∀ c H', Ex [] H H' → Q (.int c) H'
def sp_law_pool (K : PySem.W.Frag) : Sp := fun vs H Q _ => ∃ c : Int, vs = [.int c] ∧ ∀ p H', H p = none → Ex [] H H' → PoolAt H' p → Q (.ref p) H'
def sp_law_draw (K : PySem.W.Frag) : Sp := fun vs H Q _ => ∃ (a : Addr) (m : Int), vs = [.ref a, .int m] ∧ 0 < m ∧ m < 1000000 ∧ PoolAt H a ∧ ∀ (r : Int) (H' : Hp), 0 ≤ r → r < m → Ex [a] H H' → PoolAt H' a → Q (.int r) H'
def sp_law_turnings (K : PySem.W.Frag) : Sp := fun vs H Q _ => ∃ l : List Nat, vs = [vS l] ∧ l.length ≤ 10000 ∧ ∀ p H', H p = none → Ex [] H H' → H' p = some (.lst ((rots l).map vS)) → Q (.ref p) H'
def sp_law (K : PySem.W.Frag) : Sp := fun vs H Q _ => ∃ (a : Addr) (ns : List Int), vs = [.ref a] ∧ SqL K H a (ns.map V.int) ∧ ns.length ≤ 63 ∧ ∀ H', Q (.bl true) H'
theorem PoolAt.ex {H H' : Hp} {a : Addr} {m : List Addr} (e : Ex m H H') (n : a ∉ m) (h : PoolAt H a) : PoolAt H' a := by
  obtain ⟨x, y, z, h⟩ := h
  exact ⟨x, y, z, e a _ n h⟩
theorem PoolAt.there {H : Hp} {a : Addr} (h : PoolAt H a) : H a ≠ none := by
  obtain ⟨x, y, z, h⟩ := h
  rw [h]
  simp
section
variable {K : PySem.W.Frag} {H : Hp} {Q : VK} {E : XK}
theorem u_draw {a : Addr} {m : Int} (h0 : 0 < m) (h1 : m < 1000000) (hp : PoolAt H a) (k : ∀ (r : Int) (H' : Hp), 0 ≤ r → r < m → Ex [a] H H' → PoolAt H' a → Q (.int r) H') : sp_law_draw K ([.ref a, .int m] ++ []) H Q E := ⟨a, m, rfl, h0, h1, hp, k⟩
theorem u_pool {c : Int} (k : ∀ p H', H p = none → Ex [] H H' → PoolAt H' p → Q (.ref p) H') : sp_law_pool K ([.int c] ++ []) H Q E := ⟨c, rfl, k⟩
theorem u_cell {a : Addr} {n : Int} {ns : List Int} (hs : SqL K H a (ns.map V.int)) (hl : ns.length ≤ 63) (h0 : 0 ≤ n) (h1 : n < 1000) (k : ∀ c H', Ex [] H H' → Q (.int c) H') : sp_law_cell K ([.ref a, .int n] ++ []) H Q E := ⟨a, ns, n, rfl, hs, hl, h0, h1, k⟩
theorem u_turnings {l : List Nat} (hl : l.length ≤ 10000) (k : ∀ p H', H p = none → Ex [] H H' → H' p = some (.lst ((rots l).map vS)) → Q (.ref p) H') : sp_law_turnings K ([vS l] ++ []) H Q E := ⟨l, rfl, hl, k⟩
theorem Kd.int {i : Int} : Kd K H (.int i) "int" := ⟨.base (.int i), by decide +kernel⟩
theorem Kd.bl {b : Bool} : Kd K H (.bl b) "bool" := ⟨.base (.bl b), by decide +kernel⟩
theorem Kd.non : Kd K H .non "NoneType" := ⟨.base .non, by decide +kernel⟩
theorem Kd.str {l : List Nat} : Kd K H (vS l) "str" := ⟨.base (.str (S l)), by decide +kernel⟩
theorem Kd.tup {a : Addr} {xs : List V} (h : SqT K H a xs) : Kd K H (.ref a) "tuple" := by
  refine ⟨?_, by decide +kernel⟩
  rcases h with (h | ⟨o, h⟩) | ⟨o, its, n, h1, h2, _⟩
  · exact .base (.tup h)
  · exact .fTuple h
  · exact .kTuple h1 h2
theorem Kd.lst {a : Addr} {xs : List V} (h : H a = some (.lst xs)) : Kd K H (.ref a) "list" := ⟨.base (.lst h), by decide +kernel⟩
theorem u_is_integer {i : Int} (k : Q (.bl true) H) : sp_is_integer K ([.int i] ++ []) H Q E := ⟨.int i, "int", rfl, Kd.int, k⟩
theorem s_isiK {v : V} {n m : String} {b : Bool} (h : Kd K H v n) (hb : kitB n m = some b) (k : Q (.bl b) H) : rIsi K [v, .ty m] H Q := ⟨_, _, _, _, _, rfl, .ty _, h.1, kit_ty hb, k⟩
theorem u_is_word {l s : List Nat} (hl : l.length ≤ 10000) (k : ∀ H', Ex [] H H' → Q (.bl (isWord l s)) H') : sp_is_word K ([vS l] ++ [vS s]) H Q E := ⟨_, _, rfl, .inl ⟨l, rfl, hl, k⟩⟩
theorem u_fldRing {a : Addr} {l : List Nat} (F : RingK K) (h : RingAt K H a l) (k : Q (vS l) H) : FldG K "least" (.ref a) H Q := by
  obtain ⟨dx, h⟩ := h
  exact ⟨a, _, dx, _, _, rfl, h, F.cl, F.na, rfl, k⟩
theorem u_textP {a : Addr} {l : List Nat} (h : RingAt K H a l) (k : Q (vS l) H) : PropG (He.ga K "Ring") (sp_Ring_text K) [] E (.ref a) H Q := by
  obtain ⟨dx, h'⟩ := id h
  exact ⟨a, dx, _, rfl, h', a, l, rfl, h, k⟩
theorem u_strRing {a : Addr} {l : List Nat} (h : RingAt K H a l) (k : Q (vS l) H) : rStrO (He.ga K "Ring") (sp_Ring_str K) E [.ref a] H Q := by
  obtain ⟨dx, h'⟩ := id h
  exact ⟨a, dx, _, rfl, h', a, l, rfl, h, _, rfl, k⟩
theorem u_eqRing {a b : Addr} {l m : List Nat} (h : RingAt K H a l) (h2 : RingAt K H b m) (k : Q (.bl (decide (l = m))) H) : rEqO (He.ga K "Ring") (sp_Ring_eq K) E (.ref a) (.ref b) H Q := by
  obtain ⟨dx, h'⟩ := id h
  obtain ⟨dy, h2'⟩ := id h2
  exact ⟨a, dx, _, b, dy, _, rfl, rfl, h', h2', a, _, rfl, l, h, .inl ⟨b, m, rfl, h2, _, rfl, k⟩⟩
theorem u_isiRing {a : Addr} {l : List Nat} (F : RingK K) (h : RingAt K H a l) (k : Q (.bl true) H) : rIsi K [.ref a, .ref (He.ga K "Ring")] H Q := by
  obtain ⟨dx, h'⟩ := id h
  exact ⟨_, _, _, _, _, rfl, .own _, F.ty _ _ _ _ h', F.me, k⟩
end
end WB
namespace WB
open PySem PySem.Spec PyProof.Rows L2
def dS (l : List Nat) : PyData := .str (S l)
def plain (l : List Nat) : Prop := ∀ c ∈ l, c < 55296
theorem strOk_S {l : List Nat} (h : plain l) : PyData.strOk (S l) = true := by
  unfold PyData.strOk
  rw [← Array.all_toList, S_cps, List.all_eq_true]
  intro c hc
  have := h c hc
  exact decide_eq_true (by omega)
end WB
namespace WB
open PySem PySem.Spec PyProof.Rows L2
theorem canLay_bools : ∀ bs : List Bool, PyData.canLayAll0 (bs.map PyData.bool) = true
  | [] => by simp [PyData.canLayAll0]
  | b :: bs => by
    rw [List.map_cons, PyData.canLayAll0, canLay_bools bs]
    simp [PyData.canLay0]
theorem depth_bools : ∀ bs : List Bool, PyData.depthAll (bs.map PyData.bool) = 0
  | [] => by simp [PyData.depthAll]
  | b :: bs => by
    rw [List.map_cons, PyData.depthAll, depth_bools bs]
    simp [PyData.depth]
theorem shaped_bools (bs : List Bool) : SeqAt.shaped (.list (bs.map PyData.bool)) = true := by
  unfold SeqAt.shaped
  refine Bool.and_eq_true_iff.mpr ⟨?_, decide_eq_true ?_⟩
  · rw [PyData.canLay0]; exact canLay_bools bs
  · rw [PyData.depth, depth_bools]; omega
theorem eqv_bools : ∀ bs cs : List Bool, PyData.eqvAll (bs.map PyData.bool) (cs.map PyData.bool) = decide (bs = cs)
  | [], [] => by simp [PyData.eqvAll]
  | [], m :: ms => by simp [PyData.eqvAll]
  | l :: ls, [] => by simp [PyData.eqvAll]
  | l :: ls, m :: ms => by
    rw [List.map_cons, List.map_cons, PyData.eqvAll, eqv_bools ls ms]
    have : PyData.eqv (.bool l) (.bool m) = decide (l = m) := by
      rw [PyData.eqv]
      cases l <;> cases m <;> rfl
    rw [this]
    by_cases e : l = m <;> by_cases e2 : ls = ms <;> simp [e, e2]
theorem dp_bools {K : PySem.W.Frag} {H : Hp} : ∀ bs : List Bool, DpAll K H (bs.map V.bl) (bs.map PyData.bool)
  | [] => .nil
  | b :: bs => .cons (.bl _) (dp_bools bs)
section
variable {K : PySem.W.Frag} {H : Hp} {Q : VK}
theorem s_eqLB {a b : Addr} {bs cs : List Bool} (h1 : SqL K H a (bs.map V.bl)) (h2 : SqL K H b (cs.map V.bl)) (k : Q (.bl (decide (bs = cs))) H) : rEqD K (.ref a) (.ref b) H Q := by
  refine ⟨_, _, .lst h1 (dp_bools bs), .lst h2 (dp_bools cs), shaped_bools bs, shaped_bools cs, ?_⟩
  rw [PyData.eqv, eqv_bools]
  exact k
theorem s_neLB {a b : Addr} {bs cs : List Bool} (h1 : SqL K H a (bs.map V.bl)) (h2 : SqL K H b (cs.map V.bl)) (k : Q (.bl (!decide (bs = cs))) H) : rNeD K (.ref a) (.ref b) H Q := by
  refine ⟨_, _, .lst h1 (dp_bools bs), .lst h2 (dp_bools cs), shaped_bools bs, shaped_bools cs, ?_⟩
  rw [PyData.eqv, eqv_bools]
  exact k
def rInStr : R2 := fun x y H Q => ∃ i j, x = .str i ∧ y = .str j ∧ Q (.bl (!(Builtin.Str.occurrences j i 0 j.length 1).isEmpty)) H
def occ (l m : List Nat) : Bool := decide (∃ i, i ≤ m.length ∧ (m.drop i).take l.length = l)
theorem occ_of {l m : List Nat} : (!(Builtin.Str.occurrences (S m) (S l) 0 (S m).length 1).isEmpty) = occ l m := by
  rw [Bool.eq_iff_iff, PySem.StrLaws.found_iff]
  unfold occ
  rw [decide_eq_true_iff]
  have hx : ∀ i, (i + (S l).length ≤ (S m).length ∧ Builtin.Str.subAt (S m) (S l) i = true) ↔ (i ≤ m.length ∧ (m.drop i).take l.length = l) := by
    intro i
    rw [S_len, S_len]
    unfold Builtin.Str.subAt
    rw [beq_iff_eq, ← Array.toList_inj, S_len]
    have e1 : ((S m).cps.extract i (i + l.length)).toList = (m.drop i).take l.length := by
      rw [Array.toList_extract, S_cps]
      simp [List.extract]
    rw [e1, S_cps]
    constructor
    · rintro ⟨h1, h2⟩
      exact ⟨by omega, h2⟩
    · rintro ⟨h1, h2⟩
      refine ⟨?_, h2⟩
      have := congrArg List.length h2
      rw [List.length_take, List.length_drop] at this
      omega
  constructor
  · rintro ⟨i, h⟩; exact ⟨i, (hx i).mp h⟩
  · rintro ⟨i, h⟩; exact ⟨i, (hx i).mpr h⟩
theorem s_inStr {l m : List Nat} (k : Q (.bl (occ l m)) H) : rInStr (vS l) (vS m) H Q := ⟨_, _, rfl, rfl, by rw [occ_of]; exact k⟩
theorem s_bm {te : TE} {ta : TA} {T : String} {r : V → List V → Hp → VK → Prop} {σ : L2.St} (k : te σ H fun x H1 => tyV K T x H1 ∧ ta σ H1 fun xs H2 => r x xs H2 Q) : tBM K T r te ta σ H Q := k
theorem s_tyL {a : Addr} {xs : List V} {B : Prop} (h : H a = some (.lst xs)) (k : B) : tyV K "list" (.ref a) H ∧ B := ⟨.inl ⟨rfl, xs, SqL.of h⟩, k⟩
end
end WB
namespace WB
open PySem PySem.Spec PyProof.Rows L2
abbrev Fr' := PySem.W.Frag
abbrev Fx := PySem.W.Frag → Bool
def obsW (fa : List He.Fa) (fn : List He5.DefA) (ex : List Fx) (K : Fr') : He.AlD := ((fa.all fun f => f.ok K) && (ex.all (fun f => f K) && fn.all fun d => d.ok K), fn.map fun d => He5.fnA K (d.at_ K))
def SaysW (fa : List He.Fa) (fn : List He5.DefA) (ex : List Fx) (K : Fr') : Prop := obsW fa fn ex K = He5.valA fn
def frN {α : Type} (n : Nat) (k : Nat → α) : α := Nat.rec (k 0) (fun m _ => k (m + 1)) n
def addB {α : Type} : List Addr → Nat → List Addr → (Nat → List Addr → α) → α
  | [], seen, new, k => k seen new
  | a :: r, seen, new, k => match Nat.beq (Nat.land (Nat.shiftRight seen a) 1) 1 with
    | true => addB r seen new k
    | false => frN (Nat.lor seen (Nat.shiftLeft 1 a)) fun seen' => addB r seen' (a :: new) k
def bfsB (g : Addr → Option Obj) : Nat → Nat → List Addr → List Addr → List Addr
  | 0, _, _, acc => acc
  | n + 1, seen, front, acc => addB (front.flatMap fun a => match g a with
    | some o => He.refsD o
    | none => []) seen [] fun seen' new => bfsB g n seen' new (new ++ acc)
def asB (g : Addr → Option Obj) (n : Nat) : List Addr := bfsB g n (Nat.shiftLeft 1 mainGlobals) [mainGlobals] [mainGlobals] ++ [cStatics]
def obsWG (n : Nat) (fa : List He.Fa) (fn : List He5.DefA) (ex : List Fx) (g : Addr → Option Obj) : He.AlD := obsW fa fn ex (He.frG g (asB g n))
def hookW (n : Nat) (fa : List He.Fa) (fn : List He5.DefA) (ex : List Fx) : PySem.W.Hook where
  α := He.AlD
  obs := fun s => obsWG n fa fn ex s.heap.get?
  val := fun _ => He5.valA fn
  says := fun _ h => ∃ K : Fr', K.In h ∧ SaysW fa fn ex K
  of := fun _ _ e => ⟨_, He.frG_in, e⟩
  keeps := fun _ _ _ ⟨K, hK, c⟩ k => ⟨K, PySem.W.Frag.In.keeps hK k, c⟩
theorem obsWG_eq {n : Nat} {fa : List He.Fa} {fn : List He5.DefA} {ex : List Fx} {g : Addr → Option Obj} {s : Shared} (h : ∀ a, g a = s.heap.get? a) : obsWG n fa fn ex g = (hookW n fa fn ex).obs s := by
  have e : g = s.heap.get? := funext h
  rw [e] <;> rfl
def fdOf (K : Fr') (f : Addr) : FuncData := match K.lookup f with
  | some ⟨_, _, .func fd, _⟩ => fd
  | _ => PySem.W.fnOf "" "" { posonlyargs := [], args := [], vararg := none, kwonlyargs := [], kw_defaults := [], kwarg := none, defaults := [] } [] { kind := .function, names := [], isGenerator := false, isCoroutine := false } .none .none .none .none none .none .none
section
variable {fa : List He.Fa} {fn : List He5.DefA} {ex : List Fx} {K : Fr'}
theorem SaysW.b (c : SaysW fa fn ex K) : (fa.all fun f => f.ok K) = true ∧ ex.all (fun f => f K) = true ∧ (fn.all fun d => d.ok K) = true := by
  have h := congrArg (fun z : He.AlD => z.1) c
  obtain ⟨h1, h2⟩ := He.ba (show ((fa.all fun f => f.ok K) && (ex.all (fun f => f K) && fn.all fun d => d.ok K)) = true from h)
  obtain ⟨h2, h3⟩ := He.ba h2
  exact ⟨h1, h2, h3⟩
theorem SaysW.fact (c : SaysW fa fn ex K) (i : Nat) {f : He.Fa} (h : fa[i]? = some f := by rfl) : f.ok K = true := List.all_eq_true.mp c.b.1 f (List.mem_of_getElem? h)
theorem SaysW.more (c : SaysW fa fn ex K) (i : Nat) {f : Fx} (h : ex[i]? = some f := by rfl) : f K = true := List.all_eq_true.mp c.b.2.1 f (List.mem_of_getElem? h)
theorem SaysW.def_ (c : SaysW fa fn ex K) (i : Nat) {d : He5.DefA} (h : fn[i]? = some d := by rfl) : FunD K d.name d.qual d.params d.body d.scope (d.dvs K) (d.kws K) (d.at_ K) (fdOf K (d.at_ K)) := by
  have e : fn.map (fun d => He5.fnA K (d.at_ K)) = fn.map He5.DefA.val := congrArg (fun z : He.AlD => z.2) c
  have e2 : (fn.map fun d => He5.fnA K (d.at_ K))[i]? = (fn.map He5.DefA.val)[i]? := by rw [e]
  rw [List.getElem?_map, List.getElem?_map, h] at e2
  obtain ⟨fd, F⟩ := He5.DefA.funD (Option.some.inj e2) (List.all_eq_true.mp c.b.2.2 d (List.mem_of_getElem? h))
  obtain ⟨oc, od, dV, kV, doc, pm, an, cdv, ct, osl, e3, lk, r⟩ := F.ex
  have : fdOf K (d.at_ K) = fd := by
    unfold fdOf
    rw [lk]
  rw [this]
  exact F
end
end WB
namespace L2
open PySem
theorem Room.u1 {k : Nat} {A : Around} (r : Room k A) : A.units + 1 < cLine := by have := r.un; omega
end L2
namespace WB
open PySem PySem.Spec PyProof.Rows L2
def oexB (x : Str) : PySem.W.Frag → Bool := fun K => (match K.lookup (He.ga K x) with
  | some ⟨.type "type", _, .cls cd, sl⟩ => (match cd.mro, sl.toList with
    | .ref C' :: bm, [_, _, _, _, some (.builtin n), _] => C' == He.ga K x && n == "ValueError.__new__" && !cd.hasDel && cd.hasDict && PySem.HandSPX.refsVE bm
    | _, _ => false)
  | _ => false) && (He.eqO (PySem.W.findIn K (.ref (He.ga K x)) "__setattr__") (some (some (.builtin "object.__setattr__"))) && (decide (PySem.W.subIn K (.ref (He.ga K x)) (.type "BaseException") = some true) && (decide (PySem.W.typeIn K (.ref (He.ga K x)) = some (.type "type")) && PySem.W.keepIn K (.ref (He.ga K x)))))
theorem oexB_ok {K : PySem.W.Frag} {x : Str} (h : oexB x K = true) : OexC K (He.ga K x) := by
  obtain ⟨q, h⟩ := He.ba h
  obtain ⟨h1, h⟩ := He.ba h
  obtain ⟨h2, h⟩ := He.ba h
  obtain ⟨h3, h4⟩ := He.ba h
  refine ⟨?_, He.eqO_ok h1, of_decide_eq_true h2, of_decide_eq_true h3, h4⟩
  split at q
  · rename_i dd cd sl ho
    split at q
    · rename_i C' bm k0 k1 k2 k3 n k5 hm hs
      simp only [Bool.and_eq_true, beq_iff_eq, Bool.not_eq_true'] at q
      obtain ⟨⟨⟨⟨e1, e2⟩, hdel⟩, hdc⟩, ht⟩ := q
      obtain ⟨nm, bs, mro, ns, qn, hd, sn, sub, ab, col, del⟩ := cd
      dsimp only at hm hdel hdc
      subst hm hdel hdc e2
      have hsl : sl = #[k0, k1, k2, k3, some (.builtin "ValueError.__new__"), k5] := by
        obtain ⟨l⟩ := sl
        simp only at hs
        rw [hs]
      subst hsl
      rw [e1] at ho
      exact ⟨_, _, _, _, _, _, _, _, _, _, _, _, _, _, _, ho, ht⟩
    · cases q
  · cases q
def sp_exc (K : PySem.W.Frag) (C : Addr) (f : Str) : Sp := fun vs H Q _ => ∃ (a : Addr) (v : V), vs = [.ref a, v] ∧ OexC K C ∧ PySem.W.findIn K (.ref C) f = some none ∧ H a = some (exo a C none) ∧
  ∀ dx, H dx = none → dx ≠ a → Q .non (upd (upd H dx (exd dx [(f, v)])) a (exo a C (some dx)))
def t_exc (K : PySem.W.Frag) (f : Str) : TS := tOst K f (tVar 0) (tVar 1)
theorem pure_exc {K : PySem.W.Frag} {C : Addr} {f : Str} {vs : List V} {H : Hp} {Q : VK} {E : XK} {N : List Str} (hN : N.length = 2) (h : sp_exc K C f vs H Q E) : t_exc K f { nx := fun _ H' => Q .non H', rt := Q } (start N vs) H := by
  obtain ⟨a, v, rfl, T, hno, ha, k⟩ := h
  obtain ⟨x, y, rfl⟩ : ∃ x y, N = [x, y] := by
    match N, hN with
    | [x, y], _ => exact ⟨x, y, rfl⟩
  exact ⟨v, rfl, .ref a, rfl, a, C, rfl, T, hno, .inl ⟨ha, fun dx h1 h2 => k dx h1 h2⟩⟩
structure ExcK (K : PySem.W.Frag) (C fI : Addr) (f : Str) : Prop where
  ox : OexC K C
  no : PySem.W.findIn K (.ref C) f = some none
  ini : PySem.W.findIn K (.ref C) "__init__" = some (some (.ref fI))
  fn : PySem.W.typeIn K (.ref fI) = some (.type "function")
  xf : XfC K C
def excKB (x f : Str) : PySem.W.Frag → Bool := fun K => oexB x K && (He.eqO (PySem.W.findIn K (.ref (He.ga K x)) f) (some none) && (He.eqO (PySem.W.findIn K (.ref (He.ga K x)) "__init__") (some (some (.ref (He.ma K (He.ga K x) "__init__")))) &&
  (decide (PySem.W.typeIn K (.ref (He.ma K (He.ga K x) "__init__")) = some (.type "function")) && xfB K (He.ga K x))))
theorem excKB_ok {K : PySem.W.Frag} {x f : Str} (h : excKB x f K = true) : ExcK K (He.ga K x) (He.ma K (He.ga K x) "__init__") f := by
  obtain ⟨h1, h⟩ := He.ba h
  obtain ⟨h2, h⟩ := He.ba h
  obtain ⟨h3, h⟩ := He.ba h
  obtain ⟨h4, h5⟩ := He.ba h
  exact ⟨oexB_ok h1, He.eqO_ok h2, He.eqO_ok h3, of_decide_eq_true h4, xfB_ok h5⟩
end WB
namespace PySem
namespace OEG
open PySem.W PySem.Calls PyProof.Rows PySem.HandSPX
open Builtin Builtin.ObjectAttr
def strip : List Value → List Value
  | .ref _ :: r => strip r
  | l => l
theorem strip_eq (l : List Value) : ∃ cs : List Addr, l = cs.map Value.ref ++ strip l := by
  induction l with
  | nil => exact ⟨[], rfl⟩
  | cons a r ih =>
    cases a with
    | ref c => obtain ⟨cs, e⟩ := ih; exact ⟨c :: cs, by show Value.ref c :: r = Value.ref c :: (cs.map Value.ref ++ strip r); rw [← e]⟩
    | _ => exact ⟨[], rfl⟩
structure BaF (B nI iI : String) (bb : List Value) : Prop where
  b : ExcBaseFacts B nI iI bb
  p : ∀ self, refuseLoop self "__setattr__" bb = pure ()
  o : bb.contains (.type "object") = true
theorem baf_A : BaF "ArithmeticError" "ArithmeticError.__new__" "ArithmeticError.__init__" [.type "ArithmeticError", .type "Exception", .type "BaseException", .type "object"] := ⟨F.excBase_ArithmeticError, F.store_ArithmeticError.passes, by decide +kernel⟩
theorem baf_L : BaF "LookupError" "LookupError.__new__" "LookupError.__init__" [.type "LookupError", .type "Exception", .type "BaseException", .type "object"] := ⟨F.excBase_LookupError, F.store_LookupError.passes, by decide +kernel⟩
section
variable {B nI iI : String} {bb : List Value}
theorem pass_refs (F0 : BaF B nI iI bb) (self : Value) : ∀ cs : List Addr, refuseLoop self "__setattr__" (cs.map Value.ref ++ bb) = pure ()
  | [] => F0.p self
  | c :: cs => by
    show refuseLoop self "__setattr__" (Value.ref c :: (cs.map Value.ref ++ bb)) = pure ()
    rw [refuseLoop_ref]
    exact pass_refs F0 self cs
theorem cont_refs (Y : String) : ∀ cs : List Addr, (cs.map Value.ref ++ bb).contains (.type Y) = bb.contains (.type Y)
  | [] => rfl
  | c :: cs => by
    show (Value.ref c :: (cs.map Value.ref ++ bb)).contains (.type Y) = _
    rw [List.contains_cons, cont_refs Y cs]
    rfl
end
section
variable {prog : Program} {w : World} {A : Around} {R : Result → Shared → Prop} {hp : Heap} {g : Array GenState} {d : Drawn} {t : Nat} {os : OsState} {B nI iI : String} {bb : List Value}
theorem osa_g {K : W.Frag} {name : Str} {tk : Tok} {v : Value} {x C : Addr} {fv : Array Value} {cd : ClassData} {cs : List Addr} (F0 : BaF B nI iI bb) (X : K.In hp) (hx : hp.get? x = some { cls := .ref C, data := .fields fv })
    (hcd : W.clsIn K C = some cd) (hm : cd.mro = cs.map Value.ref ++ bb) (hh : cd.hasDict = true) (ha : W.findIn K (.ref C) name = some none)
    (done : ∀ h2 tk2 dx, (∀ b o, b ≠ x → hp.get? b = some o → h2.get? b = some o) → hp.objs.size ≤ dx → dx ≠ x → h2.get? x = some { cls := .ref C, dict := some dx, data := .fields fv } →
      h2.Ns1 dx (fun y => if y = name then some v else none) → R (.ok (.ret .none)) ⟨h2, g, d, tk2, os⟩) :
    codeAny (model prog w) A (.call (.builtin "object.__setattr__") ⟨[.ref x, .str name tk, v], []⟩) R ⟨hp, g, d, t, os⟩ := by
  have inst : W.InstAt hp x { cls := .ref C, data := .fields fv } C none := ⟨hx, rfl, rfl, trivial⟩
  have sf := F.store_object
  have obj : cd.mro.contains (.type "object") = true := by rw [hm, cont_refs]; exact F0.o
  have ne : cd.mro.isEmpty = false := by
    cases hq : cd.mro with
    | nil => rw [hq] at obj; cases obj
    | cons _ _ => rfl
  have apart : x ≠ hp.objs.size := Nat.ne_of_lt (Heap.lt_size hx)
  have isObj : W.Looks (model prog w) hp (isInstance (.ref x) (.type "object")) true := inst.type.andThen (W.looks_mroIn X (by unfold W.mroIn; rw [hcd, Option.bind_some, if_neg (by rw [ne]; decide), obj]))
  refine codeAny_call_builtin sf.slot.plain sf.entry (@W.check_slot (model prog w) _ _ ⟨hp, g, d, t, os⟩ "object.__setattr__" "object" "__setattr__" (.ref x) [.str name tk, v] [] _ sf.kind sf.split isObj (sf.args (.ref x) (.str name tk) v) ?_)
  have lm : W.Looks (model prog w) hp (mroOf (.ref C)) cd.mro := (W.looks_clsIn X hcd).andThen .now
  have lt : W.Looks (model prog w) hp (storeTaker? none) none := .now
  have lc : W.Looks (model prog w) hp (classData C) cd := W.looks_clsIn X hcd
  rw [W.osa_eq, refuse_eq]
  refine wpAny_bind (wpAny_bind (inst.type.at (wpAny_bind (lm.at ?_))))
  rw [hm, pass_refs F0]
  refine wpAny_pure (wpAny_bind (inst.type.at (wpAny_bind ((W.looks_findIn X ha).at (wpAny_bind (lt.at ?_))))))
  show wpAny _ _ (storeInOwnDict (.ref x) (.ref C) (.str name tk) name v false) _ _ _
  obtain ⟨nm, bs, mro, ns, qn, hd, sn, sb, ab, col, del⟩ := cd
  dsimp only at hh
  subst hh
  unfold storeInOwnDict ownDictForStores
  repeat (first | with_reducible refine store_in_new ?_ ?_ | with_reducible refine wpAny_loadPart_at hx ?_ | with_reducible refine lc.at ?_ | wp_step)
  · exact ⟨_, #[], _, (Heap.get?_update_ne _ _ _ _ apart.symm).trans (Heap.get?_push_at rfl rfl), rfl, fun e he => absurd he (by simp), fun _ => rfl⟩
  · intro h2 tk2 hn2 same
    have there : (hp.push { cls := .type "dict", data := .dict #[] }).get? x = some { cls := .ref C, data := .fields fv } := Heap.get?_push_of_some _ hx
    refine done h2 tk2 hp.objs.size (fun b o hb ho => ?_) (Nat.le_refl _) apart.symm ?_ hn2
    · exact (same.2 b (Nat.ne_of_lt (Heap.lt_size ho))).trans ((Heap.get?_update_ne _ _ _ _ hb).trans (Heap.get?_push_of_some _ ho))
    · exact (same.2 x apart).trans (Heap.get?_update_self _ there rfl)
end
end OEG
end PySem
namespace WB
open PySem PySem.Spec PyProof.Rows L2
structure OexG (K : PySem.W.Frag) (C : Addr) : Prop where
  cls : ∃ B nI iI bb, OEG.BaF B nI iI bb ∧ ∃ nm q N bs cs sn sub ab col dd k0 k1 k2 k3 k5, K.lookup C = some (excClassObj nm q C N bs (List.map Value.ref cs ++ bb) true sn sub ab col dd k0 k1 k2 k3 k5 nI)
  sa : PySem.W.findIn K (.ref C) "__setattr__" = some (some (.builtin "object.__setattr__"))
  exC : PySem.W.subIn K (.ref C) (.type "BaseException") = some true
  tyC : PySem.W.typeIn K (.ref C) = some (.type "type")
  kC : PySem.W.keepIn K (.ref C) = true
def tailA : List Value := [.type "ArithmeticError", .type "Exception", .type "BaseException", .type "object"]
def tailL : List Value := [.type "LookupError", .type "Exception", .type "BaseException", .type "object"]
def oexGB (x : Str) : PySem.W.Frag → Bool := fun K => (match K.lookup (He.ga K x) with
  | some ⟨.type "type", _, .cls cd, sl⟩ => (match cd.mro, sl.toList with
    | .ref C' :: bm, [_, _, _, _, some (.builtin n), _] => C' == He.ga K x && !cd.hasDel && cd.hasDict && (n == "ArithmeticError.__new__" && OEG.strip bm == tailA || n == "LookupError.__new__" && OEG.strip bm == tailL)
    | _, _ => false)
  | _ => false) && (He.eqO (PySem.W.findIn K (.ref (He.ga K x)) "__setattr__") (some (some (.builtin "object.__setattr__"))) && (decide (PySem.W.subIn K (.ref (He.ga K x)) (.type "BaseException") = some true) && (decide (PySem.W.typeIn K (.ref (He.ga K x)) = some (.type "type")) && PySem.W.keepIn K (.ref (He.ga K x)))))
theorem oexGB_ok {K : PySem.W.Frag} {x : Str} (h : oexGB x K = true) : OexG K (He.ga K x) := by
  obtain ⟨q, h⟩ := He.ba h
  obtain ⟨h1, h⟩ := He.ba h
  obtain ⟨h2, h⟩ := He.ba h
  obtain ⟨h3, h4⟩ := He.ba h
  refine ⟨?_, He.eqO_ok h1, of_decide_eq_true h2, of_decide_eq_true h3, h4⟩
  split at q
  · rename_i dd cd sl ho
    split at q
    · rename_i C' bm k0 k1 k2 k3 n k5 hm hs
      simp only [Bool.and_eq_true, Bool.or_eq_true, beq_iff_eq, Bool.not_eq_true'] at q
      obtain ⟨⟨⟨e1, hdel⟩, hdc⟩, ht⟩ := q
      obtain ⟨cs, ec⟩ := OEG.strip_eq bm
      obtain ⟨nm, bs, mro, ns, qn, hd, sn, sub, ab, col, del⟩ := cd
      dsimp only at hm hdel hdc
      subst hm hdel hdc
      have hsl : sl = #[k0, k1, k2, k3, some (.builtin n), k5] := by
        obtain ⟨l⟩ := sl
        simp only at hs
        rw [hs]
      subst hsl
      rw [e1] at ho
      rcases ht with ⟨e2, et⟩ | ⟨e2, et⟩
      · rw [et] at ec
        subst e2 ec
        exact ⟨_, _, _, _, OEG.baf_A, _, _, _, _, _, _, _, _, _, _, _, _, _, _, _, ho⟩
      · rw [et] at ec
        subst e2 ec
        exact ⟨_, _, _, _, OEG.baf_L, _, _, _, _, _, _, _, _, _, _, _, _, _, _, _, ho⟩
    · cases q
  · cases q
section
variable {X : Cx} {pins : List (Addr × Obj)} {σ : L2.St} {H : Hp} {s : Shared} {a C dx : Addr} {f : Str} {y : V} {u : Value} {Q : Unit → Shared → Prop} {E : Value → Shared → Prop} {A : Around}
theorem ost_g (T : OexG X.K C) (I : Inv X pins σ H s) (at0 : H a = some (exo a C none)) (hno : PySem.W.findIn X.K (.ref C) f = some none) (ry : RelV y u)
    (k : ∀ dx s2, H dx = none → dx ≠ a → Inv X pins σ (upd (upd H dx (exd dx [(f, y)])) a (exo a C (some dx))) s2 → Q () s2) : wpAny (model X.prog X.w) A (setAttr (.ref a) f u) Q E s := by
  obtain ⟨B, nI, iI, bb, F0, nm, q, N, bs, cs, sn, sub, ab, col, dd, k0, k1, k2, k3, k5, hC⟩ := T.cls
  have cd : PySem.W.clsIn X.K C = some { name := nm, bases := bs, mro := .ref C :: (List.map Value.ref cs ++ bb), ns := N, qualname := q, hasDict := true, slotNames := sn, subclasses := sub, abstract := ab, collection := col, hasDel := false } := by unfold PySem.W.clsIn; rw [hC] <;> rfl
  obtain ⟨t1, there⟩ := exo_at I.hok at0
  obtain ⟨hp, g, d, t, os⟩ := s
  refine PySem.W.set_plain I.kIn (ox := { cls := .ref C, dict := none, data := .fields #[.ref t1, .none, .none, .none, .bool false, .none] }) (od := none) ⟨there, rfl, rfl, trivial⟩ T.sa ?_
  refine OEG.osa_g F0 (cs := C :: cs) I.kIn there cd rfl rfl hno (fun h2 tk2 dx kp big ne hx hn => ?_)
  have new : H dx = none := I.hok.fresh big
  have off : ∀ {b : Addr} {o : Obj}, hp.get? b = some o → b ≠ dx := fun {b o} z => Nat.ne_of_lt (Nat.lt_of_lt_of_le (Heap.lt_size z) big)
  have away : ∀ {b : Addr}, H b = none → b ≠ a := fun {b} n z => by
    rw [z, at0] at n
    cases n
  have un1 : Un X.fs [] H (upd (upd H dx (exd dx [(f, y)])) a (exo a C (some dx))) hp h2 := {
    keep := fun b o z n _ _ => kp b o (away n) z
    slot := fun b o z n _ _ => ⟨o.slots, kp b o (away n) z⟩
    free := fun b o z n _ => by rw [upd_ne (away n), upd_ne (off z)]; exact n
    there := fun b o z _ => by
      by_cases hb : b = a
      · exact ⟨_, by rw [hb]; exact hx⟩
      · exact ⟨o, kp b o hb z⟩
    tups := fun b xs z => by rw [upd_ne (at_ne at0 z exo_tup), upd_ne (ne_of_none z new)]; exact z
    frzs := fun b o v z => by rw [upd_ne (at_ne at0 z exo_frz), upd_ne (ne_of_none z new)]; exact z
    tbls := fun b ps z => ⟨#[], by rw [upd_ne (at_ne at0 z exo_tbl), upd_ne (ne_of_none z new), z]; simp⟩ }
  refine k dx _ new ne (I.un (t' := tk2) un1 fun b o z => ?_)
  by_cases hb : b = a
  · subst hb
    rw [upd_same] at z
    cases z
    exact exo_ok hx
  · rw [upd_ne hb] at z
    by_cases hd : b = dx
    · subst hd
      rw [upd_same] at z
      cases z
      exact exd_ok hn (relO_put (fs := []) ry fun g => True.intro)
    · rw [upd_ne hd] at z
      refine (I.hok b o z).stay (fun c v hc y2 => kp c v ?_ y2) (fun c hc => ?_) (fun c xs hc => ?_)
      · rcases hc with hc | hc
        · rw [hc]
          exact hb
        · exact at_ne at0 hc exo_own
      · rw [upd_ne (at_ne at0 hc exo_own), upd_ne (ne_of_none hc new)]; exact hc
      · rw [upd_ne (at_ne at0 hc exo_tup), upd_ne (ne_of_none hc new)]; exact hc
def tOstG (K : PySem.W.Frag) (f : Str) (to te : TE) : TS := fun D σ H => te σ H fun y H1 => to σ H1 fun x H2 => ∃ a C : Addr, x = .ref a ∧ OexG K C ∧ PySem.W.findIn K (.ref C) f = some none ∧
  H2 a = some (exo a C none) ∧ ∀ dx, H2 dx = none → dx ≠ a → D.nx σ (upd (upd H2 dx (exd dx [(f, y)])) a (exo a C (some dx)))
theorem ps_ostG {o e : Expr} {to te : TE} {p2 pos : Pos} (ho : PE X o to) (he : PE X e te) (sw : swapsWith e (some (.Attribute o f p2)) pos.line X.env = pure false := by rfl) : PS X (.Assign [.Attribute o f p2] e pos) (tOstG X.K f to te) := by
  refine ⟨fun pins s σ H D I h => ?_⟩
  refine plainObj_wpAny_Assign_Attribute (thn (he.run pins s σ H _ I h) fun v s1 ⟨y, H1, I1, r1, q1⟩ => thn (ho.run pins s1 σ H1 _ I1 q1) fun u s2 ⟨x, H2, I2, r2, a, C, ex, T, no, at0, z⟩ => ?_) sw
  subst ex
  obtain rfl : u = Value.ref a := r2
  exact ost_g T I2 at0 no r1 fun dx s3 n ne J => ⟨σ, _, J, z dx n ne⟩
end
def sp_excG (K : PySem.W.Frag) (C : Addr) (f : Str) : Sp := fun vs H Q _ => ∃ (a : Addr) (v : V), vs = [.ref a, v] ∧ OexG K C ∧ PySem.W.findIn K (.ref C) f = some none ∧ H a = some (exo a C none) ∧
  ∀ dx, H dx = none → dx ≠ a → Q .non (upd (upd H dx (exd dx [(f, v)])) a (exo a C (some dx)))
def t_excG (K : PySem.W.Frag) (f : Str) : TS := tOstG K f (tVar 0) (tVar 1)
theorem pure_excG {K : PySem.W.Frag} {C : Addr} {f : Str} {vs : List V} {H : Hp} {Q : VK} {E : XK} {N : List Str} (hN : N.length = 2) (h : sp_excG K C f vs H Q E) : t_excG K f { nx := fun _ H' => Q .non H', rt := Q } (start N vs) H := by
  obtain ⟨a, v, rfl, T, hno, ha, k⟩ := h
  obtain ⟨x, y, rfl⟩ : ∃ x y, N = [x, y] := by
    match N, hN with
    | [x, y], _ => exact ⟨x, y, rfl⟩
  exact ⟨v, rfl, .ref a, rfl, a, C, rfl, T, hno, ha, fun dx h1 h2 => k dx h1 h2⟩
structure ExcG (K : PySem.W.Frag) (C fI : Addr) (f : Str) : Prop where
  ox : OexG K C
  no : PySem.W.findIn K (.ref C) f = some none
  ini : PySem.W.findIn K (.ref C) "__init__" = some (some (.ref fI))
  fn : PySem.W.typeIn K (.ref fI) = some (.type "function")
  xf : XfC K C
def excGB (x f : Str) : PySem.W.Frag → Bool := fun K => oexGB x K && (He.eqO (PySem.W.findIn K (.ref (He.ga K x)) f) (some none) && (He.eqO (PySem.W.findIn K (.ref (He.ga K x)) "__init__") (some (some (.ref (He.ma K (He.ga K x) "__init__")))) &&
  (decide (PySem.W.typeIn K (.ref (He.ma K (He.ga K x) "__init__")) = some (.type "function")) && xfB K (He.ga K x))))
theorem excGB_ok {K : PySem.W.Frag} {x f : Str} (h : excGB x f K = true) : ExcG K (He.ga K x) (He.ma K (He.ga K x) "__init__") f := by
  obtain ⟨h1, h⟩ := He.ba h
  obtain ⟨h2, h⟩ := He.ba h
  obtain ⟨h3, h⟩ := He.ba h
  obtain ⟨h4, h5⟩ := He.ba h
  exact ⟨oexGB_ok h1, He.eqO_ok h2, He.eqO_ok h3, of_decide_eq_true h4, xfB_ok h5⟩
end WB
namespace WB
open PySem PySem.Spec PyProof.Rows L2
def sp_excN : Sp := fun vs H Q _ => ∃ a : Addr, vs = [.ref a] ∧ Q .non H
structure ExcN (K : PySem.W.Frag) (C fI : Addr) : Prop where
  ox : OexG K C
  ini : PySem.W.findIn K (.ref C) "__init__" = some (some (.ref fI))
  fn : PySem.W.typeIn K (.ref fI) = some (.type "function")
  xf : XfC K C
def excNB (x : Str) : PySem.W.Frag → Bool := fun K => oexGB x K && (He.eqO (PySem.W.findIn K (.ref (He.ga K x)) "__init__") (some (some (.ref (He.ma K (He.ga K x) "__init__")))) &&
  (decide (PySem.W.typeIn K (.ref (He.ma K (He.ga K x) "__init__")) = some (.type "function")) && xfB K (He.ga K x)))
theorem excNB_ok {K : PySem.W.Frag} {x : Str} (h : excNB x K = true) : ExcN K (He.ga K x) (He.ma K (He.ga K x) "__init__") := by
  obtain ⟨h1, h⟩ := He.ba h
  obtain ⟨h3, h⟩ := He.ba h
  obtain ⟨h4, h5⟩ := He.ba h
  exact ⟨oexGB_ok h1, He.eqO_ok h3, of_decide_eq_true h4, xfB_ok h5⟩
def t_excN : TS := tNext
theorem pure_excN {vs : List V} {H : Hp} {Q : VK} {E : XK} {N : List Str} (h : sp_excN vs H Q E) : t_excN { nx := fun _ H' => Q .non H', rt := Q } (start N vs) H := h.choose_spec.2
end WB
namespace WB
open PySem PySem.Spec PyProof.Rows L2
def IteT (K : PySem.W.Frag) (a : Addr) : It :=
  ⟨fun i H => ∃ (xs : List V) (x : V), SqT K H a xs ∧ xs[i]? = some x, fun i H v H' => ∃ T x, v = .ref T ∧ H T = none ∧ H' = upd H T (.tup [.int (i : Nat), x]) ∧ ∀ xs, SqT K H a xs → xs[i]? = some x, fun i H => ∃ xs : List V, SqT K H a xs ∧ xs.length ≤ i⟩
def iEnumT (K : PySem.W.Frag) (ta : TA) : TI := fun σ H R => ta σ H fun vs H1 => ∃ a xs, vs = [.ref a] ∧ SqT K H1 a xs ∧ R (IteT K a) H1
theorem s_enumT {K : PySem.W.Frag} {ta : TA} {σ : L2.St} {H : Hp} {R : It → Hp → Prop} (k : ta σ H fun vs H1 => ∃ a xs, vs = [.ref a] ∧ SqT K H1 a xs ∧ R (IteT K a) H1) : iEnumT K ta σ H R := k
theorem s_enumTA {K : PySem.W.Frag} {a : Addr} {xs : List V} {H : Hp} {C : Addr → Prop} (h : SqT K H a xs) (k : C a) : ∃ b ys, [V.ref a] = [V.ref b] ∧ SqT K H b ys ∧ C b := ⟨a, xs, rfl, h, k⟩
end WB
namespace WB
open PySem PySem.Spec PyProof.Rows L2
section
variable {X : Cx}
def tDcT (wi : TI) (g : TG) (tt : TT) (tk tv : TE) (vs : List Nat) : TE := fun σ H Q => wi σ H fun J H1 => ∀ D, H1 D = none → ∃ W : Nat → Nat → Hp → Prop, (∃ m, W 0 m (upd H1 D (.dT []))) ∧ ∀ i m H, W i m H →
  (J.stop i H ∧ Q (.ref D) H) ∨ (J.go i H ∧ ∃ Nx : Hp → Prop, (∀ H', Nx H' → ∃ m', m' < m ∧ W (i + 1) m' H') ∧ ∀ x H', J.yld i H x H' → g x (wipe σ vs) H' fun σ2 H2 => wipe σ2 vs = wipe σ vs ∧ tt σ2 H2 fun c H3 =>
    if c = true then tk σ2 H3 fun y H4 => tv σ2 H4 fun z H5 => ∃ kvs k b, y = .ref b ∧ H5 b = some (.tup (k.map kV)) ∧ H5 D = some (.dT kvs) ∧ kvs.length < sizeLine ∧ Nx (upd H5 D (.dT (putK kvs k z))) else Nx H3)
end
end WB
namespace WB
open PySem PySem.Spec PyProof.Rows L2
def pick1 {α : Type} (k i : Nat) (vs ds mz zs : List α) : Option α := match k with
  | 0 => vs[i]?
  | 1 => ds[i]?
  | 2 => zs[i]?
  | _ => mz[i]?
def selG {α : Type} : List (Nat × Nat) → List α → List α → List α → List α → List α
  | [], _, _, _, _ => []
  | (k, i) :: ss, vs, ds, mz, zs => (pick1 k i vs ds mz zs).toList ++ selG ss vs ds mz zs
theorem vals_opt {vs : List V} {us : List Value} (r : Vals vs us) (i : Nat) : (vs[i]? = none ∧ us[i]? = none) ∨ ∃ v u, vs[i]? = some v ∧ us[i]? = some u ∧ RelV v u := by
  cases h : vs[i]? with
  | none =>
    refine .inl ⟨rfl, ?_⟩
    rw [List.getElem?_eq_none_iff] at h ⊢
    rw [← r.length]; exact h
  | some v =>
    obtain ⟨u, h1, h2⟩ := r.get h
    exact .inr ⟨v, u, rfl, h1, h2⟩
theorem opt_rel {vs : List V} {us : List Value} (r : Vals vs us) (i : Nat) : Vals vs[i]?.toList us[i]?.toList := by
  rcases vals_opt r i with ⟨e1, e2⟩ | ⟨v, u, e1, e2, rv⟩
  · rw [e1, e2]; exact .nil
  · rw [e1, e2]; exact .cons rv .nil
theorem sel_rel : ∀ (ss : List (Nat × Nat)) {vs ds mz zs : List V} {us its mv ws : List Value}, Vals vs us → Vals ds its → Vals mz mv → Vals zs ws → Vals (selG ss vs ds mz zs) (selG ss us its mv ws)
  | [], _, _, _, _, _, _, _, _, _, _, _, _ => .nil
  | (0, i) :: ss, _, _, _, _, _, _, _, _, r1, r2, r3, r4 => (opt_rel r1 i).append (sel_rel ss r1 r2 r3 r4)
  | (1, i) :: ss, _, _, _, _, _, _, _, _, r1, r2, r3, r4 => (opt_rel r2 i).append (sel_rel ss r1 r2 r3 r4)
  | (2, i) :: ss, _, _, _, _, _, _, _, _, r1, r2, r3, r4 => (opt_rel r4 i).append (sel_rel ss r1 r2 r3 r4)
  | (_ + 3, i) :: ss, _, _, _, _, _, _, _, _, r1, r2, r3, r4 => (opt_rel r3 i).append (sel_rel ss r1 r2 r3 r4)
section
variable {K : PySem.W.Frag} {x qual : Str} {params : Arguments} {body : List Stmt} {scope : Scope} {dvs : List V} {kws : List (Str × V)} {f : Addr} {fd : FuncData} {ps : List Str}
theorem kbnN (F : FunD K x qual params body scope [] kws f fd) (n : Nat) (ks : List Str) (ss : List (Nat × Nat))
    (h : ∀ (kV doc pm : Value) (an : Option Addr) (cdv ct : Value) (us ws : List Value), us.length = n → ws.length = ks.length → bindArgs (PySem.W.fnOf x qual params body scope .none kV doc pm an cdv ct) ⟨us, ks.zip ws⟩ = pure (ps.zip (selG ss us [] [] ws))) :
    ∃ g, KBn K fd ps n ks g (fun vs zs => selG ss vs [] [] zs) := by
  obtain ⟨oc, od, dV, kV, doc, pm, an, cdv, ct, osl, rfl, lk, hcd, hD, hK⟩ := F.ex
  rcases hD with ⟨_, rfl⟩ | ⟨e, _⟩
  · exact ⟨fun us ws => selG ss us [] [] ws, fun s us ws _ l1 l2 => .of_eq (h kV doc pm an cdv ct us ws l1 l2), fun r1 r2 => sel_rel ss r1 .nil .nil r2⟩
  · exact absurd rfl e
end
def MakeKG (C : Addr) (n m : Nat) (sp : Sp) (gV : List V → List V → List V) (E : XK) (vs zs : List V) (H : Hp) (Q : VK) : Prop := vs.length = n ∧ zs.length = m ∧ ∀ x dx, H x = none → H dx = none → dx ≠ x → sp (gV (.ref x :: vs) zs) (upd (upd H dx (.own x)) x (.ins C dx [])) (fun v H3 => v = .non ∧ Q (.ref x) H3) E
theorem s_makeK {C : Addr} {n m : Nat} {sp : Sp} {gV : List V → List V → List V} {E : XK} {t tk : TA} {σ : L2.St} {H : Hp} {Q : VK} (k : t σ H fun vs H1 => tk σ H1 fun zs H2 => MakeKG C n m sp gV E vs zs H2 Q) : tMakeK C n m sp gV E t tk σ H Q := k
end WB
namespace WB
open PySem PySem.Spec PyProof.Rows L2 ClX
section
variable {X : Cx} {CX : CXT} {k n : Nat} {C p g : Addr} {fd : FuncData} {ps ks : List Str} {mc : Value} {sp : Sp} {E : XK} {o e : Expr} {es : List Expr} {f m x : Str} {pos apos q1 : Pos} {ta : TE} {t tk : TA} {pl : Sem Bool} {kws : List Keyword} {gS : List Value → List Value → List Value} {gV : List V → List V → List V} {dvs : List V} {ds : List Value}
def tCMethK (C : Addr) (n : Nat) (sp : Sp) (gV : List V → List V → List V) (E : XK) (ta : TE) (tk : TA) : TE := fun σ H Q => ta σ H fun x H1 => x = .ref C ∧ tk σ H1 fun zs H2 => zs.length = n ∧ sp (gV [.ref C] zs) H2 Q E
end
end WB
namespace PySem.HandSPX
open PySem PySem.Spec PySem.Calls PyProof.Rows
section
variable {M : Model} {A : Around} {E : Value → Shared → Prop} {h : Heap} {g : Array GenState} {d : Drawn} {t : Nat} {os : OsState}
variable {nm q : Str} {C N : Addr} {bs bm bmB : List Value} {hdct : Bool} {sn : List Str} {sub : List Value} {ab : Bool} {col : Option Bool} {dd : Option Addr} {k0 k1 k2 k3 k5 : Option Value} {B newId initId : String}
theorem check_new_ownK (F : ExcBaseFacts B newId initId bmB) (hT : ∀ X : String, bm.contains (.type X) = bmB.contains (.type X)) {rest : List Value} {kws : List (Str × Value)} {Q : Unit → Shared → Prop}
    (hC : h.get? C = some (excClassObj nm q C N bs bm hdct sn sub ab col dd k0 k1 k2 k3 k5 newId)) (hq : Q () ⟨h, g, d, t, os⟩) : wpAny M A (checkBuiltinCall newId ⟨.ref C :: rest, kws⟩) Q E ⟨h, g, d, t, os⟩ := by
  have hcont : (Value.ref C :: bm).contains (.type B) = true := by rw [List.contains_cons, hT, F.hasB, Bool.or_true]
  have hstar := F.noStar
  simp only [checkBuiltinCall, F.newKind, F.newSplit, F.newRow]
  repeat (first | refine wpAny_loadPart_at hC ?_ | (refine wpAny_isSubtype_exc hC ?_; rw [hcont]) | refine wpAny_staticBase_exc hC ?_ | refine wpAny_madeBy_exc hC ?_ | simp only [bne_self_eq_false, Bool.false_eq_true, if_false] | wp_step)
  exact hq
end
section
variable {prog : Program} {w : World} {A : Around} {E : Value → Shared → Prop} {R : Result → Shared → Prop} {h : Heap} {g : Array GenState} {d : Drawn} {t : Nat} {os : OsState}
variable {nm q : Str} {C N : Addr} {bs bm bmB : List Value} {hdct : Bool} {sn : List Str} {sub : List Value} {ab : Bool} {col : Option Bool} {dd : Option Addr} {k0 k1 k2 k3 k5 : Option Value} {B newId initId : String}
theorem new_ownK (F : ExcBaseFacts B newId initId bmB) (hT : ∀ X : String, bm.contains (.type X) = bmB.contains (.type X)) {rest : List Value} {kws : List (Str × Value)}
    (hC : h.get? C = some (excClassObj nm q C N bs bm hdct sn sub ab col dd k0 k1 k2 k3 k5 newId))
    (hq : R (.ok (.ret (.ref (h.objs.size + 1)))) ⟨(h.push { cls := .type "tuple", data := .seq rest.toArray }).push
      { cls := .ref C, data := .fields #[.ref h.objs.size, .none, .none, .none, .bool false, .none] }, g, d, t, os⟩) (hrest : rest.length ≤ sizeLine) :
    codeAny (model prog w) A (.builtin newId ⟨.ref C :: rest, kws⟩) R ⟨h, g, d, t, os⟩ := by
  have hends := F.ends
  have hcB : (Value.ref C :: bm).contains (.type B) = true := by rw [List.contains_cons, hT, F.hasB, Bool.or_true]
  have hcA : (Value.ref C :: bm).contains (.type "AttributeError") = false := by rw [List.contains_cons, hT, F.noAttr]; rfl
  have hcN : (Value.ref C :: bm).contains (.type "NameError") = false := by rw [List.contains_cons, hT, F.noName]; rfl
  refine codeAny_builtinAt F.entry ?_
  unfold Builtin.«BaseException.__new__»
  refine wpAt_bind ?_
  show wpAt _ _ _ (stack >>= _) _ _ _
  refine wpAt_bind (wpAt_stack fun p below => wpAt_of_wpAny ?_)
  wp_walk
  refine wpAt_of_wpAny ?_
  rw [F.owner]
  repeat (first | with_reducible refine wpAny_madeHere_exc F.canon hC ?_ | with_reducible refine wpAny_loadPart_at hC ?_ | (with_reducible refine wpAny_isSubtype_exc hC ?_; first | rw [hcB] | rw [hcA] | rw [hcN]) | wp_step)
  show R _ _
  rw [Heap.size_push]
  exact hq
theorem type_call_ownK (F : ExcBaseFacts B newId initId bmB) (hT : ∀ X : String, bm.contains (.type X) = bmB.contains (.type X)) {rest : List Value} {kws : List (Str × Value)} {fI : Addr} {Q : Fin → Shared → Prop}
    (hC : h.get? C = some (excClassObj nm q C N bs bm hdct sn sub ab col dd k0 k1 k2 k3 k5 newId))
    (hi : W.Looks (model prog w) h (typeLookup (.ref C) "__init__") (some (.ref fI))) (hb : ∀ self, W.Looks (model prog w) h (bindSpecial (.ref fI) self) (.ref fI, [self])) (hrest : rest.length ≤ sizeLine)
    (hq : codeAny (model prog w) A (.call (.ref fI) ⟨.ref (h.objs.size + 1) :: rest, kws⟩)
      (fun r s' => match r with | .ok (.ret v) => v = .none ∧ Q (.done (.ret (.ref (h.objs.size + 1)))) s' | .ok _ => False | .error e => E e s')
      ⟨(h.push (W.kdv_tup rest)).push (excO C h.objs.size), g, d, t, os⟩) :
    wpAny (model prog w) A (Builtin.«type.__call__» ⟨.ref C :: rest, kws⟩) Q E ⟨h, g, d, t, os⟩ := by
  repeat (first | with_reducible refine wpAny_loadPart_at hC ?_ | with_reducible refine wpAny_madeBy_exc hC ?_ | wp_step)
  refine codeAny_call_builtin_code (Code.quiet_builtin _ F.quiet) (check_new_ownK F hT hC ?_)
  refine new_ownK F hT hC ?_ hrest
  show wpAny _ _ _ _ _ _
  have k : ∀ b o, h.get? b = some o → ((h.push (W.kdv_tup rest)).push (excO C h.objs.size)).get? b = some o := fun b o e => Heap.get?_push_of_some _ (Heap.get?_push_of_some _ e)
  have hC₁ := k _ _ hC
  have hget : ((h.push (W.kdv_tup rest)).push (excO C h.objs.size)).get? (h.objs.size + 1) = some (excO C h.objs.size) := by heap_get
  have hcC : (Value.ref C :: bm).contains (.ref C) = true := by simp
  have i1 := hi.keeps k
  have b1 := (hb (.ref (h.objs.size + 1))).keeps k
  unfold isInstance
  repeat (first | with_reducible refine wpAny_loadPart_at hget ?_ | (with_reducible refine wpAny_isSubtype_exc hC₁ ?_; rw [hcC]) | wp_step)
  show wpAny _ _ (typeLookup (.ref C) _) _ _ _
  refine i1.at ?_
  refine wpAny_holding (wpAny_bind (b1.at ?_))
  refine wpAny_bind (wpAny_call (codeAny_mono hq fun r s' z => ?_))
  rcases r with e | (v | _ | _ | _) <;> first | exact z | exact z.elim | skip
  obtain ⟨rfl, z⟩ := z
  first
    | exact wpAny_pure (wpAny_pure z)
    | (wp_walk; exact z)
theorem call_ownK (F : ExcBaseFacts B newId initId bmB) (hT : ∀ X : String, bm.contains (.type X) = bmB.contains (.type X)) {rest : List Value} {kws : List (Str × Value)} {fI : Addr}
    (hC : h.get? C = some (excClassObj nm q C N bs bm hdct sn sub ab col dd k0 k1 k2 k3 k5 newId))
    (hi : W.Looks (model prog w) h (typeLookup (.ref C) "__init__") (some (.ref fI))) (hb : ∀ self, W.Looks (model prog w) h (bindSpecial (.ref fI) self) (.ref fI, [self])) (hrest : rest.length ≤ sizeLine)
    (hq : codeAny (model prog w) (A.under (.builtin "type.__call__" ⟨.ref C :: rest, kws⟩)) (.call (.ref fI) ⟨.ref (h.objs.size + 1) :: rest, kws⟩) (W.InitBack (h.objs.size + 1) R)
      ⟨(h.push (W.kdv_tup rest)).push (excO C h.objs.size), g, d, t, os⟩) :
    codeAny (model prog w) A (.call (.ref C) ⟨rest, kws⟩) R ⟨h, g, d, t, os⟩ := by
  have f1 := tc_lookup
  have f2 := tc_bind (.ref C)
  have hTy : (⟨h, g, d, t, os⟩ : Shared).TypeIs (.ref C) "type" := ⟨_, hC, rfl⟩
  refine codeAny_of_tree ?_
  show wpAny _ _ (callAny (.ref C) _) _ _ _
  repeat (any_goals (first | assumption | with_reducible refine wpAny_loadPart_at hC ?_ | wp_step))
  refine ⟨rfl, ?_⟩
  refine codeAny_call_builtin_at (Code.quiet_builtin _ (by decide +kernel)) entry_typeCall (wpAny_check_type_call_sub hC (type_call_ownK F hT hC hi hb hrest ?_))
  refine codeAny_mono hq fun r s' z => ?_
  rcases r with e | (v | _ | _ | _) <;> exact z
end
end PySem.HandSPX
namespace WB
open PySem PySem.Spec PyProof.Rows L2
structure OexV (K : PySem.W.Frag) (C : Addr) : Prop where
  cls : ∃ (B nI iI : String) (bb : List Value) (nm q : Str) (N : Addr) (bs bm : List Value) (sn : List Str) (sub : List Value) (ab : Bool) (col : Option Bool) (dd : Option Addr) (k0 k1 k2 k3 k5 : Option Value), ExcBaseFacts B nI iI bb ∧ (∀ Y : String, bm.contains (.type Y) = bb.contains (.type Y)) ∧ K.lookup C = some (excClassObj nm q C N bs bm true sn sub ab col dd k0 k1 k2 k3 k5 nI)
  kC : PySem.W.keepIn K (.ref C) = true
theorem OexV.ofC {K : PySem.W.Frag} {C : Addr} (T : OexC K C) : OexV K C := by
  obtain ⟨nm, q, N, bs, bm, sn, sub, ab, col, dd, k0, k1, k2, k3, k5, hC, hbm⟩ := T.cls
  exact ⟨⟨_, _, _, _, nm, q, N, bs, bm, sn, sub, ab, col, dd, k0, k1, k2, k3, k5, F.excBase_ValueError, fun Y => PySem.HandSPX.refsVE_contains Y bm hbm, hC⟩, T.kC⟩
theorem OexV.ofG {K : PySem.W.Frag} {C : Addr} (T : OexG K C) : OexV K C := by
  obtain ⟨B, nI, iI, bb, F0, nm, q, N, bs, cs, sn, sub, ab, col, dd, k0, k1, k2, k3, k5, hC⟩ := T.cls
  exact ⟨⟨_, _, _, _, nm, q, N, bs, _, sn, sub, ab, col, dd, k0, k1, k2, k3, k5, F0.b, fun Y => OEG.cont_refs Y cs, hC⟩, T.kC⟩
def tMkV (C : Addr) (sp : Sp) (ta : TA) : TE := fun σ H Q => ta σ H fun vs H1 => vs.length ≤ 1000 ∧ ∀ a, H1 a = none → sp (.ref a :: vs) (upd H1 a (exo a C none)) (fun v H2 => v = .non ∧ Q (.ref a) H2) (fun _ _ _ => False)
def tMkVK (C : Addr) (m : Nat) (sp : Sp) (gV : List V → List V → List V) (tk : TA) : TE := fun σ H Q => tk σ H fun zs H1 => zs.length = m ∧ ∀ a, H1 a = none → sp (gV [.ref a] zs) (upd H1 a (exo a C none)) (fun v H2 => v = .non ∧ Q (.ref a) H2) (fun _ _ _ => False)
section
variable {X : Cx} {CX : CXT} {x : Str} {C fI : Addr} {k : Nat} {fd : FuncData} {ps ks : List Str} {sp : Sp} {e : Expr} {es : List Expr} {kws : List Keyword} {ta tk : TA} {p pos : Pos} {gS : List Value → List Value → List Value} {gV : List V → List V → List V}
theorem pe_oexV (T : OexV X.K C) (iC : PySem.W.findIn X.K (.ref C) "__init__" = some (some (.ref fI))) (tI : PySem.W.typeIn X.K (.ref fI) = some (.type "function"))
    (F1 : FnOk X.prog X.w X.K X.mg X.base CX k fI fd ps sp) (hr : Room (k + 1) X.A) (hb : Binds X.K fd ps []) (hx : Passes CX X (fun _ _ _ => False)) (hg : Gl X x) (hm : X.mg x = some (.ref C)) (ha : PA X (e :: es) ta)
    (hdb : (x == ("__debug__" : Str)) = false := by decide) (he : starEach (e :: es) X.env = (false, eval e X.env) :: starEach es X.env := by rfl) (hpl : (backTo pos (starEach es X.env)).any (·.1) = false := by rfl) :
    PE X (.Call (.Name x p) (e :: es) [] pos) (tMkV C sp ta) := by
  refine ⟨fun pins s σ H Q I h => ?_⟩
  obtain ⟨B, nI, iI, bb, nm, q, N, bs, bm, sn, sub, ab, col, dd, k0, k1, k2, k3, k5, F0, hT, hC⟩ := T.cls
  refine wpAny_Call_Name_kw (ld_glob I hg hm ?_ hdb)
  refine PySem.W.callWith_K (h₀ := X.base) I.ok.mod.kin T.kC (thn (ha.run pos pins s σ H _ I h) fun us s1 ⟨vs, H1, I1, r1, hz, q1⟩ => ⟨I1.kIn, ?_⟩) he hpl
  show wpAny _ _ (call (.ref C) us) _ _ _
  obtain ⟨hp, g, dr, tk, os⟩ := s1
  have big : hp.objs.size ≤ hp.objs.size + 1 := Nat.le_succ _
  have start := q1 (hp.objs.size + 1) (I1.hok.fresh big)
  have kk : ∀ b o, hp.get? b = some o → ((hp.push (PySem.W.kdv_tup us)).push (PySem.HandSPX.excO C hp.objs.size)).get? b = some o := fun b o e => Heap.get?_push_of_some _ (Heap.get?_push_of_some _ e)
  have hget : ((hp.push (PySem.W.kdv_tup us)).push (PySem.HandSPX.excO C hp.objs.size)).get? (hp.objs.size + 1) = some (PySem.HandSPX.excO C hp.objs.size) := by heap_get
  have I2 := I1.laid (t' := tk) (a := hp.objs.size + 1) (o := exo (hp.objs.size + 1) C none) (h' := (hp.push (PySem.W.kdv_tup us)).push (PySem.HandSPX.excO C hp.objs.size)) kk big (exo_ok hget)
  have r2 : Vals (V.ref (hp.objs.size + 1) :: vs) (Value.ref (hp.objs.size + 1) :: us) := .cons rfl r1
  have hl : (Value.ref (hp.objs.size + 1) :: us ++ []).length = ps.length := by
    have e := r2.length
    rw [F1.len _ _ _ _ start] at e
    rw [List.append_nil]
    exact e.symm
  have hus : us.length ≤ sizeLine := by
    rw [← Paired.length r1, sizeLine_eq]
    omega
  have hbb := hb _ (Value.ref (hp.objs.size + 1) :: us) I2.kIn hl
  rw [List.append_nil] at hbb
  refine wpAny_call (PySem.HandSPX.call_own F0 hT (I1.kIn _ _ hC) (PySem.W.looks_findIn I1.kIn iC) (fun self => PySem.W.bind_fn I1.kIn self tI) hus
    (codeAny_mono (F1.run _ X.stack _ _ ⟨Value.ref (hp.objs.size + 1) :: us, []⟩ (Value.ref (hp.objs.size + 1) :: us) _ _ (fun _ _ _ => False) (hr.make C us []) (I2.env0.make C us []) hbb r2 start) fun r s' hq' => ?_))
  cases r with
  | error er => exact hx pins σ _ _ er s' I2 hq'
  | ok fl =>
    cases fl with
    | ret u =>
      obtain ⟨v, H', I3, rv, ev, q3⟩ := I2.after hq'
      subst ev
      exact ⟨rv, ⟨V.ref (hp.objs.size + 1), H', I3, rfl, q3⟩⟩
    | next => exact False.elim hq'
    | brk => exact False.elim hq'
    | cont => exact False.elim hq'
theorem pe_oexV0 (T : OexV X.K C) (iC : PySem.W.findIn X.K (.ref C) "__init__" = some (some (.ref fI))) (tI : PySem.W.typeIn X.K (.ref fI) = some (.type "function"))
    (F1 : FnOk X.prog X.w X.K X.mg X.base CX k fI fd ps sp) (hr : Room (k + 1) X.A) (hb : Binds X.K fd ps []) (hx : Passes CX X (fun _ _ _ => False)) (hg : Gl X x) (hm : X.mg x = some (.ref C))
    (hdb : (x == ("__debug__" : Str)) = false := by decide) :
    PE X (.Call (.Name x p) [] [] pos) (tMkV C sp tNil) := by
  refine ⟨fun pins s σ H Q I h => ?_⟩
  obtain ⟨B, nI, iI, bb, nm, q, N, bs, bm, sn, sub, ab, col, dd, k0, k1, k2, k3, k5, F0, hT, hC⟩ := T.cls
  refine wpAny_Call_Name_kw (ld_glob I hg hm ?_ hdb)
  refine PySem.W.callWith_K0 I.kIn T.kC ?_
  show wpAny _ _ (call (.ref C) []) _ _ _
  obtain ⟨hp, g, dr, tk, os⟩ := s
  have big : hp.objs.size ≤ hp.objs.size + 1 := Nat.le_succ _
  have start := h.2 (hp.objs.size + 1) (I.hok.fresh big)
  have kk : ∀ b o, hp.get? b = some o → ((hp.push (PySem.W.kdv_tup [])).push (PySem.HandSPX.excO C hp.objs.size)).get? b = some o := fun b o e => Heap.get?_push_of_some _ (Heap.get?_push_of_some _ e)
  have hget : ((hp.push (PySem.W.kdv_tup [])).push (PySem.HandSPX.excO C hp.objs.size)).get? (hp.objs.size + 1) = some (PySem.HandSPX.excO C hp.objs.size) := by heap_get
  have I2 := I.laid (t' := tk) (a := hp.objs.size + 1) (o := exo (hp.objs.size + 1) C none) (h' := (hp.push (PySem.W.kdv_tup [])).push (PySem.HandSPX.excO C hp.objs.size)) kk big (exo_ok hget)
  have r2 : Vals [V.ref (hp.objs.size + 1)] [Value.ref (hp.objs.size + 1)] := .cons rfl .nil
  have hl : ([Value.ref (hp.objs.size + 1)] ++ []).length = ps.length := by
    have e := r2.length
    rw [F1.len _ _ _ _ start] at e
    rw [List.append_nil]
    exact e.symm
  have hbb := hb _ [Value.ref (hp.objs.size + 1)] I2.kIn hl
  rw [List.append_nil] at hbb
  refine wpAny_call (PySem.HandSPX.call_own F0 hT (I.kIn _ _ hC) (PySem.W.looks_findIn I.kIn iC) (fun self => PySem.W.bind_fn I.kIn self tI) (by simp)
    (codeAny_mono (F1.run _ X.stack _ _ ⟨[Value.ref (hp.objs.size + 1)], []⟩ [Value.ref (hp.objs.size + 1)] _ _ (fun _ _ _ => False) (hr.make C [] []) (I2.env0.make C [] []) hbb r2 start) fun r s' hq' => ?_))
  cases r with
  | error er => exact hx pins σ _ _ er s' I2 hq'
  | ok fl =>
    cases fl with
    | ret u =>
      obtain ⟨v, H', I3, rv, ev, q3⟩ := I2.after hq'
      subst ev
      exact ⟨rv, ⟨V.ref (hp.objs.size + 1), H', I3, rfl, q3⟩⟩
    | next => exact False.elim hq'
    | brk => exact False.elim hq'
    | cont => exact False.elim hq'
theorem pe_oexVK (T : OexV X.K C) (iC : PySem.W.findIn X.K (.ref C) "__init__" = some (some (.ref fI))) (tI : PySem.W.typeIn X.K (.ref fI) = some (.type "function"))
    (F1 : FnOk X.prog X.w X.K X.mg X.base CX k fI fd ps sp) (hr : Room (k + 1) X.A) (hg : Gl X x) (hm : X.mg x = some (.ref C)) (hb : KBn X.K fd ps 1 ks gS gV) (hx : Passes CX X (fun _ _ _ => False)) (hkw : PK X kws tk)
    (hall : (backToKw pos (keywordEach kws X.env)).all (·.1.isSome) = true := by rfl) (hks : (backToKw pos (keywordEach kws X.env)).filterMap (·.1) = ks := by rfl) (hdb : (x == ("__debug__" : Str)) = false := by decide)
    (hpl : ((backTo pos (starEach [] X.env)).any (·.1) || (backToKw pos (keywordEach kws X.env)).any (·.1.isNone)) = false := by rfl) :
    PE X (.Call (.Name x p) [] kws pos) (tMkVK C ks.length sp gV tk) := by
  refine ⟨fun pins s σ H Q I h => ?_⟩
  obtain ⟨B, nI, iI, bb, nm, q, N, bs, bm, sn, sub, ab, col, dd, k0, k1, k2, k3, k5, F0, hT, hC⟩ := T.cls
  refine wpAny_Call_Name_kw (ld_glob I hg hm ?_ hdb)
  refine PySem.W.callWith_KW0 (h₀ := X.base) I.ok.mod.kin T.kC hall ?_ hpl
  refine thn (hkw.run pos pins s σ H _ I h) fun ws s1 ⟨zs, H1, I1, rz, l2, q1⟩ => ⟨I1.kIn, ?_⟩
  rw [hks]
  show wpAny _ _ (call (.ref C) [] (ks.zip ws)) _ _ _
  obtain ⟨hp, g, dr, tk, os⟩ := s1
  have big : hp.objs.size ≤ hp.objs.size + 1 := Nat.le_succ _
  have start := q1 (hp.objs.size + 1) (I1.hok.fresh big)
  have kk : ∀ b o, hp.get? b = some o → ((hp.push (PySem.W.kdv_tup [])).push (PySem.HandSPX.excO C hp.objs.size)).get? b = some o := fun b o e => Heap.get?_push_of_some _ (Heap.get?_push_of_some _ e)
  have hget : ((hp.push (PySem.W.kdv_tup [])).push (PySem.HandSPX.excO C hp.objs.size)).get? (hp.objs.size + 1) = some (PySem.HandSPX.excO C hp.objs.size) := by heap_get
  have I2 := I1.laid (t' := tk) (a := hp.objs.size + 1) (o := exo (hp.objs.size + 1) C none) (h' := (hp.push (PySem.W.kdv_tup [])).push (PySem.HandSPX.excO C hp.objs.size)) kk big (exo_ok hget)
  have r2 := hb.rel (vs := [V.ref (hp.objs.size + 1)]) (us := [Value.ref (hp.objs.size + 1)]) (.cons rfl .nil) rz
  refine wpAny_call (PySem.HandSPX.call_ownK F0 hT (I1.kIn _ _ hC) (PySem.W.looks_findIn I1.kIn iC) (fun self => PySem.W.bind_fn I1.kIn self tI) (by simp)
    (codeAny_mono (F1.run _ X.stack _ _ ⟨[Value.ref (hp.objs.size + 1)], ks.zip ws⟩ (gS [Value.ref (hp.objs.size + 1)] ws) _ _ (fun _ _ _ => False) (hr.make C [] (ks.zip ws)) (I2.env0.make C [] (ks.zip ws)) (hb.to _ [Value.ref (hp.objs.size + 1)] ws I2.kIn rfl (rz.length.symm.trans l2)) r2 start) fun r s' hq' => ?_))
  cases r with
  | error er => exact hx pins σ _ _ er s' I2 hq'
  | ok fl =>
    cases fl with
    | ret u =>
      obtain ⟨v, H', I3, rv, ev, q3⟩ := I2.after hq'
      subst ev
      exact ⟨rv, ⟨V.ref (hp.objs.size + 1), H', I3, rfl, q3⟩⟩
    | next => exact False.elim hq'
    | brk => exact False.elim hq'
    | cont => exact False.elim hq'
end
def ExcAt (H : Hp) (a C : Addr) (fs : List (Str × V)) : Prop := (fs = [] ∧ H a = some (exo a C none)) ∨ ∃ d, H a = some (exo a C (some d)) ∧ H d = some (exd d fs)
theorem ExcAt.ex {H H1 : Hp} {a C : Addr} {fs : List (Str × V)} (k : ∀ b o, H b = some o → H1 b = some o) (h : ExcAt H a C fs) : ExcAt H1 a C fs := by
  rcases h with ⟨e, h⟩ | ⟨d, h1, h2⟩
  · exact .inl ⟨e, k _ _ h⟩
  · exact .inr ⟨d, k _ _ h1, k _ _ h2⟩
def rIsV (K : PySem.W.Frag) : List V → Hp → VK → Prop := fun xs H Q => ∃ (a D : Addr) (fs : List (Str × V)) (c : V) (cv : Value) (b : Bool), xs = [.ref a, c] ∧ ExcAt H a D fs ∧ ExcC K D ∧ (∀ u, RelV c u → u = cv) ∧ PySem.W.kitOne K (.ref D) cv = some b ∧ Q (.bl b) H
theorem call_isV {X : Cx} : CallR X (.builtin "isinstance") (rIsV X.K) := by
  intro pins s σ H xs us Q I r h
  obtain ⟨a, D, fs, c, cv, b, rfl, hE, C, hcv, e, q⟩ := h
  cases r with
  | cons rx rr =>
    cases rr with
    | cons rt rr =>
      cases rr
      cases rx
      have ec := hcv _ rt
      subst ec
      have hcl : (PySem.W.clsIn X.K D).isSome = true := by
        obtain ⟨cd, hc, _⟩ := PySem.W.any_some C.hd
        rw [hc]
        rfl
      have J : ∃ oe od, PySem.W.InstAt s.heap a oe D od := by
        rcases hE with ⟨_, h1⟩ | ⟨d, h1, h2⟩
        · obtain ⟨t1, he⟩ := exo_at I.hok h1
          exact ⟨_, none, he, rfl, rfl, trivial⟩
        · obtain ⟨t1, he⟩ := exo_at I.hok h1
          obtain ⟨mA, hns, _⟩ := exd_at I.hok h2
          obtain ⟨od, ho, _⟩ := lookIn_ns hns
          exact ⟨_, some od, he, rfl, rfl, ho⟩
      obtain ⟨oe, od, J⟩ := J
      exact PySem.W.kia_one (PySem.W.kitx_exc hcl C.hg C.hk C.hs C.ha C.hn C.ht C.hm) I.kIn J e (fun z => nomatch z) fun tk => ⟨.bl b, H, I.kept (t' := tk) fun _ _ z => z, rfl, q⟩
def tVX (K : PySem.W.Frag) (te : TE) (f : Str) : TE := fun σ H Q => te σ H fun x H1 => ∃ (a C d : Addr) (fs : List (Str × V)) (v : V), x = .ref a ∧ H1 a = some (exo a C (some d)) ∧ H1 d = some (exd d fs) ∧ XfC K C ∧ PySem.W.findIn K (.ref C) f = some none ∧ fs.lookup f = some v ∧ Q v H1
theorem pe_vx {X : Cx} {e : Expr} {te : TE} {pos : Pos} {n : Str} (he : PE X e te) (hb : attributeBase e n X.env (eval e X.env) = eval e X.env := by rfl) : PE X (.Attribute e n pos) (tVX X.K te n) := by
  refine ⟨fun pins s σ H Q I h => ?_⟩
  refine attr_of hb (thn (he.run pins s σ H _ I h) fun u s1 hh => ?_)
  obtain ⟨x, H1, I1, rx, a, C, dd, fs, v, ex, ha, hdd, T, hno, l, q⟩ := hh
  subst ex
  obtain rfl : u = Value.ref a := rx
  obtain ⟨t1, hge⟩ := exo_at I1.hok ha
  obtain ⟨mA, hns, hr⟩ := exd_at I1.hok hdd
  obtain ⟨od, ho, hl⟩ := lookIn_ns hns
  obtain ⟨u, hu, ru⟩ := RelO.some_of (v := v) (o := mA n) (by rw [← l]; exact hr n)
  have J : PySem.W.InstAt s1.heap a { cls := .ref C, dict := some dd, data := .fields #[.ref t1, .none, .none, .none, .bool false, .none] } C (some od) := ⟨hge, rfl, rfl, ho⟩
  exact HandSPX.exc_get I1.kIn J T.ga T.gg T.exC (PySem.W.findObj_own T.hdC hno rfl (by rw [hl, hu])) (handed_of ru) ⟨v, H1, I1.tok _, ru, q⟩
end WB
namespace WB
open PySem PySem.Spec PyProof.Rows L2
def nm01 : List Str := ["InvalidWord", "InvalidSigns", "InvalidNumber", "InvalidRound", "InvalidPlace", "InvalidRow", "InvalidWish", "InvalidIndex", "InvalidName", "NotARing", "NotAKind", "NotALoop", "OtherSigns", "InvalidPairs", "InvalidStates", "InvalidRows", "InvalidTurns", "InvalidChanges", "UnknownName", "InUse", "TooMany", "NoRing", "NothingToUndo", "Broken"]
def fl01 : List Str := ["given", "given", "given", "given", "given", "given", "given", "given", "given", "given", "given", "given", "given", "index", "index", "index", "index", "index", "given", "index", "limit", "", "", "index"]
def cl01 (K : PySem.W.Frag) (i : Nat) : Addr := He.ga K (nm01.getD i "")
def bs01 : List Str := ["WrongValue", "WrongName", "NoAnswer"]
def ow01 : List String := ["ValueError", "LookupError", "ArithmeticError"]
def gr01 (i : Nat) : Nat := if i < 18 then 0 else if i < 20 then 1 else 2
def tb01 (v : V) : List (List (Str × V)) := [[("given", v)], [("given", v)], [("given", v)], [("given", v)], [("given", v)], [("given", v)], [("given", v)], [("given", v)], [("given", v)], [("given", v)], [("given", v)], [("given", v)], [("given", v)], [("index", v)], [("index", v)], [("index", v)], [("index", v)], [("index", v)], [("given", v)], [("index", v)], [("limit", v)], [], [], [("index", v)]]
def fs01 (i : Nat) (v : V) : List (Str × V) := (tb01 v).getD i []
structure Vs01 (K : PySem.W.Frag) : Prop where
  ec : ∀ i, i < 24 → ExcC K (cl01 K i)
  xf : ∀ i, i < 24 → XfC K (cl01 K i)
  no : ∀ i, i < 24 → fl01.getD i "" ≠ "" → PySem.W.findIn K (.ref (cl01 K i)) (fl01.getD i "") = some none
  k1 : ∀ i j, i < 24 → j < 24 → PySem.W.kitOne K (.ref (cl01 K i)) (.ref (cl01 K j)) = some (decide (j = i))
  k2 : ∀ i j, i < 24 → j < 3 → PySem.W.kitOne K (.ref (cl01 K i)) (.ref (He.ga K (bs01.getD j ""))) = some (decide (j = gr01 i))
  k3 : ∀ i j, i < 24 → j < 3 → PySem.W.kitOne K (.ref (cl01 K i)) (.type (ow01.getD j "")) = some (decide (j = gr01 i))
def excCB (K : PySem.W.Frag) (D : Addr) : Bool :=
  decide (PySem.W.findIn K (.ref D) "__getattribute__" = some (some (.builtin "BaseException.__getattribute__"))) && (decide (PySem.W.findIn K (.ref D) "__getattr__" = some none) && (decide (PySem.W.subIn K (.ref D) (.type "BaseException") = some true) && (PySem.W.hasDictIn K D &&
  (decide (PySem.W.findIn K (.ref D) "__class__" = some (some (.builtin "object.__class__"))) && (decide (PySem.W.specialIn K (.builtin "object.__class__") "__get__" = some (some (.builtin "getset_descriptor.__get__"))) && (decide (PySem.W.takesIn K (.builtin "object.__class__") = some true) && decide (PySem.W.mroIn K D (.type "object") = some true)))))))
theorem excCB_ok {K : PySem.W.Frag} {D : Addr} (h : excCB K D = true) : ExcC K D := by
  obtain ⟨h1, h⟩ := He.ba h
  obtain ⟨h2, h⟩ := He.ba h
  obtain ⟨h3, h⟩ := He.ba h
  obtain ⟨h4, h⟩ := He.ba h
  obtain ⟨h5, h⟩ := He.ba h
  obtain ⟨h6, h⟩ := He.ba h
  obtain ⟨h7, h8⟩ := He.ba h
  exact ⟨of_decide_eq_true h1, of_decide_eq_true h2, of_decide_eq_true h3, h4, of_decide_eq_true h5, of_decide_eq_true h6, of_decide_eq_true h7, of_decide_eq_true h8⟩
def vs01B : PySem.W.Frag → Bool := fun K => (List.range 24).all fun i => excCB K (cl01 K i) && (xfB K (cl01 K i) && ((fl01.getD i "" == "" || He.eqO (PySem.W.findIn K (.ref (cl01 K i)) (fl01.getD i "")) (some none)) &&
  ((List.range 24).all (fun j => decide (PySem.W.kitOne K (.ref (cl01 K i)) (.ref (cl01 K j)) = some (decide (j = i)))) && ((List.range 3).all (fun j => decide (PySem.W.kitOne K (.ref (cl01 K i)) (.ref (He.ga K (bs01.getD j ""))) = some (decide (j = gr01 i)))) &&
  (List.range 3).all (fun j => decide (PySem.W.kitOne K (.ref (cl01 K i)) (.type (ow01.getD j "")) = some (decide (j = gr01 i))))))))
theorem rall {n : Nat} {f : Nat → Bool} (h : (List.range n).all f = true) (i : Nat) (hi : i < n) : f i = true := List.all_eq_true.mp h i (List.mem_range.mpr hi)
theorem vs01B_ok {K : PySem.W.Frag} (h : vs01B K = true) : Vs01 K := by
  have z := fun i hi => He.ba (rall h i hi)
  have z2 := fun i hi => He.ba (z i hi).2
  have z3 := fun i hi => He.ba (z2 i hi).2
  have z4 := fun i hi => He.ba (z3 i hi).2
  have z5 := fun i hi => He.ba (z4 i hi).2
  refine ⟨fun i hi => excCB_ok (z i hi).1, fun i hi => xfB_ok (z2 i hi).1, fun i hi n => ?_, fun i j hi hj => of_decide_eq_true (rall (z4 i hi).1 j hj), fun i j hi hj => of_decide_eq_true (rall (z5 i hi).1 j hj), fun i j hi hj => of_decide_eq_true (rall (z5 i hi).2 j hj)⟩
  have q := (z3 i hi).1
  rcases Bool.or_eq_true_iff.mp q with q | q
  · exact absurd (beq_iff_eq.mp q) n
  · exact He.eqO_ok q
end WB
namespace WB
open PySem PySem.Spec PyProof.Rows L2
def top (i : Nat) : Stmt := PySem.Challenge.pw_wherebegun_k01_limits_and_errors.main.body.getD i (.Pass ⟨0, 0, 0, 0⟩)
abbrev st_law_cell : Stmt := top 39
abbrev st_law_pool : Stmt := top 40
abbrev st_law_draw : Stmt := top 41
abbrev st_law_faceX : Stmt := top 42
abbrev st_law_wholeK : Stmt := top 43
abbrev st_law_odd : Stmt := top 44
abbrev st_law_sorts : Stmt := top 45
abbrev st_law_by_place : Stmt := top 46
abbrev st_law_by_name : Stmt := top 47
abbrev st_law_kept : Stmt := top 48
abbrev st_law_error_right : Stmt := top 49
abbrev st_law_right01 : Stmt := top 50
abbrev st_law_constants : Stmt := top 51
abbrev st_law : Stmt := top 52
def d_law_cell : He5.DefA := ⟨fun K => (He.ga K "_law_cell"), "_law_cell", "_law_cell", defArgs st_law_cell, defBody st_law_cell, defScope st_law_cell, [], []⟩
def d_law_pool : He5.DefA := ⟨fun K => (He.ga K "_law_pool"), "_law_pool", "_law_pool", defArgs st_law_pool, defBody st_law_pool, defScope st_law_pool, [], []⟩
def d_law_draw : He5.DefA := ⟨fun K => (He.ga K "_law_draw"), "_law_draw", "_law_draw", defArgs st_law_draw, defBody st_law_draw, defScope st_law_draw, [], []⟩
def d_law_faceX : He5.DefA := ⟨fun K => (He.ga K "_law_face"), "_law_face", "_law_face", defArgs st_law_faceX, defBody st_law_faceX, defScope st_law_faceX, [], []⟩
def d_law_wholeK : He5.DefA := ⟨fun K => (He.ga K "_law_whole"), "_law_whole", "_law_whole", defArgs st_law_wholeK, defBody st_law_wholeK, defScope st_law_wholeK, [], []⟩
def d_law_odd : He5.DefA := ⟨fun K => (He.ga K "_law_odd"), "_law_odd", "_law_odd", defArgs st_law_odd, defBody st_law_odd, defScope st_law_odd, [], []⟩
def d_law_sorts : He5.DefA := ⟨fun K => (He.ga K "_law_sorts"), "_law_sorts", "_law_sorts", defArgs st_law_sorts, defBody st_law_sorts, defScope st_law_sorts, [], []⟩
def d_law_by_place : He5.DefA := ⟨fun K => (He.ga K "_law_by_place"), "_law_by_place", "_law_by_place", defArgs st_law_by_place, defBody st_law_by_place, defScope st_law_by_place, [], []⟩
def d_law_by_name : He5.DefA := ⟨fun K => (He.ga K "_law_by_name"), "_law_by_name", "_law_by_name", defArgs st_law_by_name, defBody st_law_by_name, defScope st_law_by_name, [], []⟩
def d_law_kept : He5.DefA := ⟨fun K => (He.ga K "_law_kept"), "_law_kept", "_law_kept", defArgs st_law_kept, defBody st_law_kept, defScope st_law_kept, [], []⟩
def d_law_error_right : He5.DefA := ⟨fun K => (He.ga K "_law_error_right"), "_law_error_right", "_law_error_right", defArgs st_law_error_right, defBody st_law_error_right, defScope st_law_error_right, [], []⟩
def d_law_right01 : He5.DefA := ⟨fun K => (He.ga K "_law_right"), "_law_right", "_law_right", defArgs st_law_right01, defBody st_law_right01, defScope st_law_right01, [], []⟩
def d_law_constants : He5.DefA := ⟨fun K => (He.ga K "_law_constants"), "_law_constants", "_law_constants", defArgs st_law_constants, defBody st_law_constants, defScope st_law_constants, [], []⟩
def d_law : He5.DefA := ⟨fun K => (He.ga K "law"), "law", "law", defArgs st_law, defBody st_law, defScope st_law, [], []⟩
abbrev st_InvalidWord_init : Stmt := inClass (top 2) 0
def d_InvalidWord_init : He5.DefA := ⟨fun K => (He.ma K (He.ga K "InvalidWord") "__init__"), "__init__", "InvalidWord.__init__", defArgs st_InvalidWord_init, defBody st_InvalidWord_init, defScope st_InvalidWord_init, [], []⟩
abbrev st_InvalidSigns_init : Stmt := inClass (top 3) 0
def d_InvalidSigns_init : He5.DefA := ⟨fun K => (He.ma K (He.ga K "InvalidSigns") "__init__"), "__init__", "InvalidSigns.__init__", defArgs st_InvalidSigns_init, defBody st_InvalidSigns_init, defScope st_InvalidSigns_init, [], []⟩
abbrev st_InvalidNumber_init : Stmt := inClass (top 4) 0
def d_InvalidNumber_init : He5.DefA := ⟨fun K => (He.ma K (He.ga K "InvalidNumber") "__init__"), "__init__", "InvalidNumber.__init__", defArgs st_InvalidNumber_init, defBody st_InvalidNumber_init, defScope st_InvalidNumber_init, [], []⟩
abbrev st_InvalidRound_init : Stmt := inClass (top 5) 0
def d_InvalidRound_init : He5.DefA := ⟨fun K => (He.ma K (He.ga K "InvalidRound") "__init__"), "__init__", "InvalidRound.__init__", defArgs st_InvalidRound_init, defBody st_InvalidRound_init, defScope st_InvalidRound_init, [], []⟩
abbrev st_InvalidPlace_init : Stmt := inClass (top 6) 0
def d_InvalidPlace_init : He5.DefA := ⟨fun K => (He.ma K (He.ga K "InvalidPlace") "__init__"), "__init__", "InvalidPlace.__init__", defArgs st_InvalidPlace_init, defBody st_InvalidPlace_init, defScope st_InvalidPlace_init, [], []⟩
abbrev st_InvalidRow_init : Stmt := inClass (top 7) 0
def d_InvalidRow_init : He5.DefA := ⟨fun K => (He.ma K (He.ga K "InvalidRow") "__init__"), "__init__", "InvalidRow.__init__", defArgs st_InvalidRow_init, defBody st_InvalidRow_init, defScope st_InvalidRow_init, [], []⟩
abbrev st_InvalidWish_init : Stmt := inClass (top 8) 0
def d_InvalidWish_init : He5.DefA := ⟨fun K => (He.ma K (He.ga K "InvalidWish") "__init__"), "__init__", "InvalidWish.__init__", defArgs st_InvalidWish_init, defBody st_InvalidWish_init, defScope st_InvalidWish_init, [], []⟩
abbrev st_InvalidIndex_init : Stmt := inClass (top 9) 0
def d_InvalidIndex_init : He5.DefA := ⟨fun K => (He.ma K (He.ga K "InvalidIndex") "__init__"), "__init__", "InvalidIndex.__init__", defArgs st_InvalidIndex_init, defBody st_InvalidIndex_init, defScope st_InvalidIndex_init, [], []⟩
abbrev st_InvalidName_init : Stmt := inClass (top 10) 0
def d_InvalidName_init : He5.DefA := ⟨fun K => (He.ma K (He.ga K "InvalidName") "__init__"), "__init__", "InvalidName.__init__", defArgs st_InvalidName_init, defBody st_InvalidName_init, defScope st_InvalidName_init, [], []⟩
abbrev st_NotARing_init : Stmt := inClass (top 11) 0
def d_NotARing_init : He5.DefA := ⟨fun K => (He.ma K (He.ga K "NotARing") "__init__"), "__init__", "NotARing.__init__", defArgs st_NotARing_init, defBody st_NotARing_init, defScope st_NotARing_init, [], []⟩
abbrev st_NotAKind_init : Stmt := inClass (top 12) 0
def d_NotAKind_init : He5.DefA := ⟨fun K => (He.ma K (He.ga K "NotAKind") "__init__"), "__init__", "NotAKind.__init__", defArgs st_NotAKind_init, defBody st_NotAKind_init, defScope st_NotAKind_init, [], []⟩
abbrev st_NotALoop_init : Stmt := inClass (top 13) 0
def d_NotALoop_init : He5.DefA := ⟨fun K => (He.ma K (He.ga K "NotALoop") "__init__"), "__init__", "NotALoop.__init__", defArgs st_NotALoop_init, defBody st_NotALoop_init, defScope st_NotALoop_init, [], []⟩
abbrev st_OtherSigns_init : Stmt := inClass (top 14) 0
def d_OtherSigns_init : He5.DefA := ⟨fun K => (He.ma K (He.ga K "OtherSigns") "__init__"), "__init__", "OtherSigns.__init__", defArgs st_OtherSigns_init, defBody st_OtherSigns_init, defScope st_OtherSigns_init, [], []⟩
abbrev st_InvalidPairs_init : Stmt := inClass (top 15) 0
def d_InvalidPairs_init : He5.DefA := ⟨fun K => (He.ma K (He.ga K "InvalidPairs") "__init__"), "__init__", "InvalidPairs.__init__", defArgs st_InvalidPairs_init, defBody st_InvalidPairs_init, defScope st_InvalidPairs_init, [], []⟩
abbrev st_InvalidStates_init : Stmt := inClass (top 16) 0
def d_InvalidStates_init : He5.DefA := ⟨fun K => (He.ma K (He.ga K "InvalidStates") "__init__"), "__init__", "InvalidStates.__init__", defArgs st_InvalidStates_init, defBody st_InvalidStates_init, defScope st_InvalidStates_init, [], []⟩
abbrev st_InvalidRows_init : Stmt := inClass (top 17) 0
def d_InvalidRows_init : He5.DefA := ⟨fun K => (He.ma K (He.ga K "InvalidRows") "__init__"), "__init__", "InvalidRows.__init__", defArgs st_InvalidRows_init, defBody st_InvalidRows_init, defScope st_InvalidRows_init, [], []⟩
abbrev st_InvalidTurns_init : Stmt := inClass (top 18) 0
def d_InvalidTurns_init : He5.DefA := ⟨fun K => (He.ma K (He.ga K "InvalidTurns") "__init__"), "__init__", "InvalidTurns.__init__", defArgs st_InvalidTurns_init, defBody st_InvalidTurns_init, defScope st_InvalidTurns_init, [], []⟩
abbrev st_InvalidChanges_init : Stmt := inClass (top 19) 0
def d_InvalidChanges_init : He5.DefA := ⟨fun K => (He.ma K (He.ga K "InvalidChanges") "__init__"), "__init__", "InvalidChanges.__init__", defArgs st_InvalidChanges_init, defBody st_InvalidChanges_init, defScope st_InvalidChanges_init, [], []⟩
abbrev st_UnknownName_init : Stmt := inClass (top 21) 0
def d_UnknownName_init : He5.DefA := ⟨fun K => (He.ma K (He.ga K "UnknownName") "__init__"), "__init__", "UnknownName.__init__", defArgs st_UnknownName_init, defBody st_UnknownName_init, defScope st_UnknownName_init, [], []⟩
abbrev st_InUse_init : Stmt := inClass (top 22) 0
def d_InUse_init : He5.DefA := ⟨fun K => (He.ma K (He.ga K "InUse") "__init__"), "__init__", "InUse.__init__", defArgs st_InUse_init, defBody st_InUse_init, defScope st_InUse_init, [], []⟩
abbrev st_TooMany_init : Stmt := inClass (top 24) 0
def d_TooMany_init : He5.DefA := ⟨fun K => (He.ma K (He.ga K "TooMany") "__init__"), "__init__", "TooMany.__init__", defArgs st_TooMany_init, defBody st_TooMany_init, defScope st_TooMany_init, [], []⟩
abbrev st_NoRing_init : Stmt := inClass (top 25) 0
def d_NoRing_init : He5.DefA := ⟨fun K => (He.ma K (He.ga K "NoRing") "__init__"), "__init__", "NoRing.__init__", defArgs st_NoRing_init, defBody st_NoRing_init, defScope st_NoRing_init, [], []⟩
abbrev st_NothingToUndo_init : Stmt := inClass (top 26) 0
def d_NothingToUndo_init : He5.DefA := ⟨fun K => (He.ma K (He.ga K "NothingToUndo") "__init__"), "__init__", "NothingToUndo.__init__", defArgs st_NothingToUndo_init, defBody st_NothingToUndo_init, defScope st_NothingToUndo_init, [], []⟩
abbrev st_Broken_init : Stmt := inClass (top 27) 0
def d_Broken_init : He5.DefA := ⟨fun K => (He.ma K (He.ga K "Broken") "__init__"), "__init__", "Broken.__init__", defArgs st_Broken_init, defBody st_Broken_init, defScope st_Broken_init, [], []⟩
def fn : List He5.DefA := [d_law_cell, d_law_pool, d_law_draw, d_law_faceX, d_law_wholeK, d_law_odd, d_law_sorts, d_law_by_place, d_law_by_name, d_law_kept, d_law_error_right, d_law_right01, d_law_constants, d_law, d_InvalidWord_init, d_InvalidSigns_init, d_InvalidNumber_init, d_InvalidRound_init, d_InvalidPlace_init, d_InvalidRow_init, d_InvalidWish_init, d_InvalidIndex_init, d_InvalidName_init, d_NotARing_init, d_NotAKind_init, d_NotALoop_init, d_OtherSigns_init, d_InvalidPairs_init, d_InvalidStates_init, d_InvalidRows_init, d_InvalidTurns_init, d_InvalidChanges_init, d_UnknownName_init, d_InUse_init, d_TooMany_init, d_NoRing_init, d_NothingToUndo_init, d_Broken_init]
def fa : List He.Fa := [.glo "_law_cell", .glo "_law_pool", .glo "_law_draw", .glo "_law_face", .glo "_law_whole", .glo "_law_odd", .glo "_law_sorts", .glo "_law_by_place", .glo "_law_by_name", .glo "_law_kept", .glo "_law_error_right", .glo "_law_right", .glo "_law_constants", .glo "law", .glo "Broken", .glo "InUse", .glo "InvalidChanges", .glo "InvalidIndex", .glo "InvalidName", .glo "InvalidNumber", .glo "InvalidPairs", .glo "InvalidPlace", .glo "InvalidRound", .glo "InvalidRow", .glo "InvalidRows", .glo "InvalidSigns", .glo "InvalidStates", .glo "InvalidTurns", .glo "InvalidWish", .glo "InvalidWord", .int "MOST_CHANGES" 6, .int "MOST_LENGTH" 9, .int "MOST_ROUNDS" 99, .int "MOST_SIGNS" 4, .int "MOST_STANDS" 600, .int "MOST_STATES" 6, .int "MOST_TIMES" 9, .int "MOST_TOTAL" 30, .int "MOST_WARM" 9, .int "MOST_WORD" 600, .glo "NoAnswer", .glo "NoRing", .glo "NotAKind", .glo "NotALoop", .glo "NotARing", .glo "NothingToUndo", .glo "OtherSigns", .glo "TooMany", .glo "UnknownName", .glo "WrongName", .glo "WrongValue", .free "ArithmeticError", .free "LookupError", .free "ValueError", .free "abs", .free "all", .free "bool", .free "dict", .free "divmod", .free "int", .free "isinstance", .free "len", .free "list", .free "max", .free "min", .free "range", .free "tuple"]
def ex : List Fx := [excKB "InvalidWord" "given", excKB "InvalidSigns" "given", excKB "InvalidNumber" "given", excKB "InvalidRound" "given", excKB "InvalidPlace" "given", excKB "InvalidRow" "given", excKB "InvalidWish" "given", excKB "InvalidIndex" "given", excKB "InvalidName" "given", excKB "NotARing" "given", excKB "NotAKind" "given", excKB "NotALoop" "given", excKB "OtherSigns" "given", excKB "InvalidPairs" "index", excKB "InvalidStates" "index", excKB "InvalidRows" "index", excKB "InvalidTurns" "index", excKB "InvalidChanges" "index", excGB "UnknownName" "given", excGB "InUse" "index", excGB "TooMany" "limit", excNB "NoRing", excNB "NothingToUndo", excGB "Broken" "index", vs01B]
def looseN : List Str := (["WrongValue", "InvalidWord", "InvalidSigns", "InvalidNumber", "InvalidRound", "InvalidPlace", "InvalidRow", "InvalidWish", "InvalidIndex", "InvalidName", "NotARing", "NotAKind", "NotALoop", "OtherSigns", "InvalidPairs"] : List Str) ++ (["InvalidStates", "InvalidRows", "InvalidTurns", "InvalidChanges", "WrongName", "UnknownName", "InUse", "NoAnswer", "TooMany", "NoRing", "NothingToUndo", "Broken", "MOST_SIGNS", "MOST_STATES", "MOST_WORD"] : List Str) ++ (["MOST_STANDS", "MOST_ROUNDS", "MOST_TOTAL", "MOST_LENGTH", "MOST_CHANGES", "MOST_WARM", "MOST_TIMES", "_law_cell", "_law_pool", "_law_draw", "_law_face", "_law_whole", "_law_odd", "_law_sorts", "_law_by_place"] : List Str) ++ (["_law_by_name", "_law_kept", "_law_error_right", "_law_right", "_law_constants"] : List Str)
abbrev RR : PySem.W.OpenRow := PySem.W.OpenLaw.row PySem.Challenge.rw_wherebegun_k01_limits_and_errors
abbrev hk : PySem.W.Hook := hookW 6 fa fn ex
def ob (s : PySem.W.SharedT) : He.AlD := obsWG 6 fa fn ex (HandSHeadRun.getT s)
theorem ob_eq (s : PySem.W.SharedT) : ob s = hk.obs s.abs := obsWG_eq (HandSHeadRun.getT_eq s)
theorem runH (w : World) : HandSHeadRun.RunEq RR (PySem.W.view RR.prog [52]) hk ob 20000 looseN w := by
  intro os
  kernel_rfl
end WB
namespace WB
section
open PySem PySem.Spec PyProof.Rows L2
theorem Ex.drop {H H1 H2 : Hp} {p : Addr} (hp : H p = none) (a : Ex [] H H1) (b : Ex [p] H1 H2) : Ex [] H H2 := fun x o _ h => b x o (by simpa using ne_of_none h hp) (a x o (by simp) h)
end
end WB
namespace WB
open PySem PySem.Spec PyProof.Rows L2
def oddS : List (List Nat) := [[], [97], [97, 98], [65], [97, 32, 98], [97, 97], [97, 10], [97, 98, 99, 100, 101]]
def kA : Key := .inr "a"
inductive OddAt (m : List Addr) (H : Hp) : V → Prop
  | non : OddAt m H .non
  | bl (b : Bool) : OddAt m H (.bl b)
  | int (i : Int) (h : i.natAbs ≤ 10 ^ 38) : OddAt m H (.int i)
  | str (l : List Nat) (h : l ∈ oddS) : OddAt m H (vS l)
  | l0 {a : Addr} (n : a ∉ m) (h : H a = some (.lst [])) : OddAt m H (.ref a)
  | l1 {a : Addr} (n : a ∉ m) (h : H a = some (.lst [vS [97]])) : OddAt m H (.ref a)
  | d0 {a : Addr} (n : a ∉ m) (h : H a = some (.dK [])) : OddAt m H (.ref a)
  | d1 {a : Addr} (n : a ∉ m) (h : H a = some (.dK [(kA, .int 1)])) : OddAt m H (.ref a)
  | t0 {a : Addr} (n : a ∉ m) (h : H a = some (.tup [])) : OddAt m H (.ref a)
  | t1 {a : Addr} (n : a ∉ m) (h : H a = some (.tup [vS [97]])) : OddAt m H (.ref a)
  | t2 {a : Addr} (n : a ∉ m) (h : H a = some (.tup [.int 0, .int 1])) : OddAt m H (.ref a)
  | t3 {a b c d e : Addr} (n : a ∉ m) (nb : b ∉ m) (nc : c ∉ m) (nd : d ∉ m) (ne : e ∉ m) (h : H a = some (.tup [.ref b, .ref c])) (hb : H b = some (.lst [])) (hc : H c = some (.dK [(kA, .ref d)])) (hd : H d = some (.tup [.int 1, .ref e])) (he : H e = some (.lst [])) : OddAt m H (.ref a)
theorem OddAt.ex {m : List Addr} {H H' : Hp} {v : V} (e : Ex m H H') (h : OddAt m H v) : OddAt m H' v := by
  cases h with
  | non => exact .non
  | bl b => exact .bl b
  | int i h => exact .int i h
  | str l h => exact .str l h
  | l0 n h => exact .l0 n (e _ _ n h)
  | l1 n h => exact .l1 n (e _ _ n h)
  | d0 n h => exact .d0 n (e _ _ n h)
  | d1 n h => exact .d1 n (e _ _ n h)
  | t0 n h => exact .t0 n (e _ _ n h)
  | t1 n h => exact .t1 n (e _ _ n h)
  | t2 n h => exact .t2 n (e _ _ n h)
  | t3 n nb nc nd ne h hb hc hd he => exact .t3 n nb nc nd ne (e _ _ n h) (e _ _ nb hb) (e _ _ nc hc) (e _ _ nd hd) (e _ _ ne he)
theorem oddS_len {l : List Nat} (h : l ∈ oddS) : l.length ≤ 5 := by
  simp only [oddS, List.mem_cons, List.not_mem_nil, or_false] at h
  rcases h with rfl | rfl | rfl | rfl | rfl | rfl | rfl | rfl <;> decide
theorem oddS_plain {l : List Nat} (h : l ∈ oddS) : plain l := by
  simp only [oddS, List.mem_cons, List.not_mem_nil, or_false] at h
  rcases h with rfl | rfl | rfl | rfl | rfl | rfl | rfl | rfl <;> (unfold plain; decide)
theorem Kd.dict {K : PySem.W.Frag} {H : Hp} {a : Addr} {kvs : List (Key × V)} (h : H a = some (.dK kvs)) : Kd K H (.ref a) "dict" := ⟨.base (.dK h), by decide +kernel⟩
def sp_law_odd (K : PySem.W.Frag) : Sp := fun vs H Q _ => ∃ a : Addr, vs = [.ref a] ∧ PoolAt H a ∧ ∀ (v : V) (H' : Hp), Ex [a] H H' → PoolAt H' a → OddAt [a] H' v → Q v H'
section
variable {K : PySem.W.Frag} {H : Hp} {Q : VK} {E : XK}
theorem u_odd {a : Addr} (hp : PoolAt H a) (k : ∀ (v : V) (H' : Hp), Ex [a] H H' → PoolAt H' a → OddAt [a] H' v → Q v H') : sp_law_odd K ([.ref a] ++ []) H Q E := ⟨_, rfl, hp, k⟩
theorem s_dnew (k : ∀ p H2, H p = none → Ex [] H H2 → H2 p = some (.dK []) → Q (.ref p) H2) {σ : St} : tDNewK σ H Q := fun p hp => k p _ hp (Ex.new hp) upd_same
theorem s_disp1 {σ : St} {ta tb : TE} {z : Key} {v : V} (h : ∀ p H1, H p = none → Ex [] H H1 → H1 p = some (.dK []) → ∀ R : List (V × V) → Hp → Prop, (∀ H2, Ex [] H1 H2 → R [(kV z, v)] H2) → tPairs [(ta, tb)] σ H1 R) (k : ∀ p H2, H p = none → Ex [] H H2 → H2 p = some (.dK [(z, v)]) → Q (.ref p) H2) : tDisp [(ta, tb)] σ H Q := by
  intro p hp
  refine h p _ hp (Ex.new hp) upd_same _ fun H2 e => ⟨e p _ (by simp) upd_same, [(z, v)], rfl, by simp, k p _ hp ?_ ?_⟩
  · intro b o _ hb
    rw [upd_ne (ne_of_none hb hp)]
    exact e b o (by simp) (by rw [upd_ne (ne_of_none hb hp)]; exact hb)
  · exact upd_same
theorem s_pairs1 {σ : St} {ta tb : TE} {R : List (V × V) → Hp → Prop} (k : ta σ H fun x H1 => tb σ H1 fun y H2 => R [(x, y)] H2) : tPairs [(ta, tb)] σ H R := k
theorem dp_all {f : α → V} {g : α → PyData} (h : ∀ x, Dp K H (f x) (g x)) : ∀ l : List α, DpAll K H (l.map f) (l.map g)
  | [] => .nil
  | x :: l => .cons (h x) (dp_all h l)
theorem canLay_all {g : α → PyData} (h : ∀ x, PyData.canLay0 (g x) = true) : ∀ l : List α, PyData.canLayAll0 (l.map g) = true
  | [] => by simp [PyData.canLayAll0]
  | x :: l => by
    rw [List.map_cons, PyData.canLayAll0]
    exact Bool.and_eq_true_iff.mpr ⟨h x, canLay_all h l⟩
theorem depth_all {g : α → PyData} (h : ∀ x, PyData.depth (g x) = 0) : ∀ l : List α, PyData.depthAll (l.map g) = 0
  | [] => by simp [PyData.depthAll]
  | x :: l => by
    rw [List.map_cons, PyData.depthAll, depth_all h l, h x]
    rfl
theorem shaped_ints (l : List Int) : SeqAt.shaped (.list (l.map PyData.int)) = true := by
  unfold SeqAt.shaped
  refine Bool.and_eq_true_iff.mpr ⟨?_, decide_eq_true ?_⟩
  · rw [PyData.canLay0]; exact canLay_all (fun x => by simp [PyData.canLay0]) l
  · rw [PyData.depth, depth_all (fun x => by simp [PyData.depth]) l]; omega
end
end WB
namespace WB
open PySem PySem.Spec PyProof.Rows L2
def ndc {α : Type} [DecidableEq α] : List α → Nat
  | [] => 0
  | x :: r => if x ∈ r then ndc r else ndc r + 1
def rSetN (K : PySem.W.Frag) (x : V) (H : Hp) (Q : VK) : Prop := (∃ l : List Nat, x = vS l ∧ l.length < 4000 ∧ Q (.int (ndc l.reverse : Nat)) H) ∨ (∃ (a : Addr) (ls : List (List Nat)), x = .ref a ∧ SqL K H a (ls.map vS) ∧ ls.length < 4000 ∧ Q (.int (ndc ls.reverse : Nat)) H)
def tLenSetS (K : PySem.W.Frag) (ta : TE) : TE := fun σ H Q => ta σ H fun x H1 => rSetN K x H1 Q
end WB
namespace WB
open PySem PySem.Spec PyProof.Rows L2
section
variable {K : PySem.W.Frag} {H : Hp} {Q : VK} {E : XK}
theorem s_lenSet {ta : TE} {σ : St} (k : ta σ H fun x H1 => rSetN K x H1 Q) : tLenSetS K ta σ H Q := k
end
end WB
namespace WB
open PySem PySem.Spec PyProof.Rows L2
def KindAt (K : PySem.W.Frag) (H : Hp) (a : Addr) (l : List Nat) (ps : List (List Nat)) : Prop := ∃ dx t, H a = some (.ins (He.ga K "Kind") dx [("letters", vS l), ("allowed", .ref t)]) ∧ SqT K H t (ps.map vS)
section
variable {K : PySem.W.Frag} {H H' : Hp} {a p : Addr} {l : List Nat} {ps : List (List Nat)} {Q : VK} {E : XK}
theorem KindAt.ex0 (e : Ex [] H H') (h : KindAt K H a l ps) : KindAt K H' a l ps := by
  obtain ⟨dx, t, h1, h2⟩ := h
  exact ⟨dx, t, e a _ (by simp) h1, e.sqT (by simp) h2⟩
theorem sqT_pool {t : Addr} {xs : List V} (hp : PoolAt H p) (e : Ex [p] H H') (h : SqT K H t xs) : SqT K H' t xs := by
  obtain ⟨x, y, z, hp⟩ := hp
  rcases h with (h | ⟨o, h⟩) | h
  · exact e.sqT (by simp only [List.mem_singleton]; intro w; rw [w, hp] at h; cases h) (.inl (.inl h))
  · exact e.sqT (by simp only [List.mem_singleton]; intro w; rw [w, hp] at h; cases h) (.inl (.inr ⟨o, h⟩))
  · exact .inr h
theorem KindAt.exP (hp : PoolAt H p) (e : Ex [p] H H') (h : KindAt K H a l ps) : KindAt K H' a l ps := by
  obtain ⟨dx, t, h1, h2⟩ := h
  refine ⟨dx, t, e a _ ?_ h1, sqT_pool hp e h2⟩
  obtain ⟨x, y, z, hp⟩ := hp
  simp only [List.mem_singleton]
  intro w
  rw [w, hp] at h1
  cases h1
theorem s_notN {v : V} (k : Q (.bl (!decide (v = .non))) H) : rNotN1 v .non H Q := ⟨rfl, k⟩
theorem s_isN {v : V} (k : Q (.bl (decide (v = .non))) H) : rIsN1 v .non H Q := ⟨rfl, k⟩
end
end WB
namespace WB
open PySem PySem.Spec PyProof.Rows L2
def Lc2W (J : It) (g : TG) (tt : TT) (wi1 : TI) (g1 : TG) (tt1 : TT) (te : TE) (vs vs1 : List Nat) (σ : St) (H1 : Hp) (Q : VK) : Prop := ∀ D, H1 D = none → ∃ W : Nat → Nat → Hp → Prop, (∃ m, W 0 m (upd H1 D (.lst []))) ∧ ∀ i m H, W i m H →
  (J.stop i H ∧ Q (.ref D) H) ∨ (J.go i H ∧ ∃ Nx : Hp → Prop, (∀ H', Nx H' → ∃ m', m' < m ∧ W (i + 1) m' H') ∧ ∀ x H', J.yld i H x H' → g x (wipe σ vs) H' fun σ2 H2 => wipe σ2 vs = wipe σ vs ∧ tt σ2 H2 fun b H3 =>
    if b = true then wi1 σ2 H3 fun J1 H4 => ∃ W1 : Nat → Nat → Hp → Prop, (∃ m, W1 0 m H4) ∧ ∀ j k H, W1 j k H →
      (J1.stop j H ∧ Nx H) ∨ (J1.go j H ∧ ∃ Nx1 : Hp → Prop, (∀ H', Nx1 H' → ∃ k', k' < k ∧ W1 (j + 1) k' H') ∧ ∀ x H', J1.yld j H x H' → g1 x (wipe σ2 vs1) H' fun σ3 H5 => wipe σ3 vs1 = wipe σ2 vs1 ∧ tt1 σ3 H5 fun b H6 =>
        if b = true then te σ3 H6 fun y H7 => ∃ acc, H7 D = some (.lst acc) ∧ acc.length < sizeLine ∧ Nx1 (upd H7 D (.lst (acc ++ [y]))) else Nx1 H6)
    else Nx H3)
theorem s_lc2 {wi wi1 : TI} {g g1 : TG} {tt tt1 : TT} {te : TE} {vs vs1 : List Nat} {σ : St} {H : Hp} {Q : VK} (k : wi σ H fun J H1 => Lc2W J g tt wi1 g1 tt1 te vs vs1 σ H1 Q) : tLc2 wi g tt wi1 g1 tt1 te vs vs1 σ H Q := k
end WB
namespace WB
open PySem PySem.Spec PyProof.Rows L2
def sTuple : List Nat := [116, 117, 112, 108, 101]
def sList : List Nat := [108, 105, 115, 116]
def sTruth : List Nat := [116, 114, 117, 116, 104]
def sPlain : List Nat := [112, 108, 97, 105, 110]
def Scal (v : V) (d : PyData) : Prop := (v = .non ∧ d = .none) ∨ (∃ b, v = .bl b ∧ d = .bool b) ∨ (∃ i, v = .int i ∧ d = .int i) ∨ (∃ l, plain l ∧ v = vS l ∧ d = dS l)
def Dd (K : PySem.W.Frag) (H : Hp) : Nat → V → PyData → Prop
  | 0, v, d => Scal v d
  | n + 1, v, d => Scal v d ∨ (∃ a xs ds, v = .ref a ∧ d = .tuple ds ∧ SqT K H a xs ∧ xs.length ≤ 1000 ∧ ds.length = xs.length ∧ ∀ (i : Nat) x e, xs[i]? = some x → ds[i]? = some e → Dd K H n x e) ∨
    (∃ a xs ds, v = .ref a ∧ d = .list ds ∧ H a = some (.lst xs) ∧ xs.length ≤ 1000 ∧ ds.length = xs.length ∧ ∀ (i : Nat) x e, xs[i]? = some x → ds[i]? = some e → Dd K H n x e)
def Fr (F : Addr → Prop) (H : Hp) : Nat → V → PyData → Prop
  | 0, v, d => Scal v d
  | n + 1, v, d => Scal v d ∨ (∃ a xs ds, v = .ref a ∧ d = .list ds ∧ F a ∧ H a = some (.lst xs) ∧ ds.length = xs.length ∧ ∀ (i : Nat) x e, xs[i]? = some x → ds[i]? = some e → Fr F H n x e)
theorem Scal.dp {K : PySem.W.Frag} {H : Hp} {v : V} {d : PyData} (h : Scal v d) : Dp K H v d := by
  rcases h with ⟨rfl, rfl⟩ | ⟨b, rfl, rfl⟩ | ⟨i, rfl, rfl⟩ | ⟨l, _, rfl, rfl⟩
  · exact .non
  · exact .bl b
  · exact .int i
  · exact .str _
theorem dpAll_of {K : PySem.W.Frag} {H : Hp} : ∀ (xs : List V) (ds : List PyData), ds.length = xs.length → (∀ (i : Nat) x e, xs[i]? = some x → ds[i]? = some e → Dp K H x e) → DpAll K H xs ds
  | [], [], _, _ => .nil
  | x :: xs, d :: ds, hl, h => .cons (h 0 x d rfl rfl) (dpAll_of xs ds (by simpa using hl) fun i y e h1 h2 => h (i + 1) y e h1 h2)
theorem Fr.dp {K : PySem.W.Frag} {F : Addr → Prop} {H : Hp} : ∀ (n : Nat) (v : V) (d : PyData), Fr F H n v d → Dp K H v d
  | 0, _, _, h => Scal.dp h
  | n + 1, v, d, h => by
    rcases h with h | ⟨a, xs, ds, rfl, rfl, _, h1, hl, h2⟩
    · exact Scal.dp h
    · exact .lst (SqL.of h1) (dpAll_of xs ds hl fun i x e hx he => Fr.dp n x e (h2 i x e hx he))
theorem Fr.mono {F F' : Addr → Prop} {H H' : Hp} (hF : ∀ a, F a → F' a) (hh : ∀ a xs, F a → H a = some (.lst xs) → H' a = some (.lst xs)) : ∀ (n : Nat) (v : V) (d : PyData), Fr F H n v d → Fr F' H' n v d
  | 0, _, _, h => h
  | n + 1, v, d, h => by
    rcases h with h | ⟨a, xs, ds, rfl, rfl, f, h1, hl, h2⟩
    · exact .inl h
    · exact .inr ⟨a, xs, ds, rfl, rfl, hF a f, hh a xs f h1, hl, fun i x e hx he => Fr.mono hF hh n x e (h2 i x e hx he)⟩
theorem Dd.ex {K : PySem.W.Frag} {H H' : Hp} (e : Ex [] H H') : ∀ (n : Nat) (v : V) (d : PyData), Dd K H n v d → Dd K H' n v d
  | 0, _, _, h => h
  | n + 1, v, d, h => by
    rcases h with h | ⟨a, xs, ds, rfl, rfl, h1, hn, hl, h2⟩ | ⟨a, xs, ds, rfl, rfl, h1, hn, hl, h2⟩
    · exact .inl h
    · exact .inr (.inl ⟨a, xs, ds, rfl, rfl, e.sqT (by simp) h1, hn, hl, fun i x y hx hy => Dd.ex e n x y (h2 i x y hx hy)⟩)
    · exact .inr (.inr ⟨a, xs, ds, rfl, rfl, e.get0 h1, hn, hl, fun i x y hx hy => Dd.ex e n x y (h2 i x y hx hy)⟩)
theorem lay_all : ∀ {ds : List PyData}, (∀ e ∈ ds, PyData.canLay0 e = true) → PyData.canLayAll0 ds = true
  | [], _ => by simp [PyData.canLayAll0]
  | d :: ds, h => by
    rw [PyData.canLayAll0]
    exact Bool.and_eq_true_iff.mpr ⟨h d List.mem_cons_self, lay_all fun e he => h e (List.mem_cons_of_mem _ he)⟩
theorem dep_all {m : Nat} : ∀ {ds : List PyData}, (∀ e ∈ ds, PyData.depth e ≤ m) → PyData.depthAll ds ≤ m
  | [], _ => by simp [PyData.depthAll]
  | d :: ds, h => by
    rw [PyData.depthAll]
    exact Nat.max_le.mpr ⟨h d List.mem_cons_self, dep_all fun e he => h e (List.mem_cons_of_mem _ he)⟩
theorem lay_dS {l : List Nat} (h : plain l) : PyData.canLay0 (dS l) = true := by
  unfold dS
  rw [PyData.canLay0]
  exact strOk_S h
theorem dep_dS {l : List Nat} : PyData.depth (dS l) = 0 := by simp [dS, PyData.depth]
theorem scal_shape {v : V} {d : PyData} (h : Scal v d) : PyData.canLay0 d = true ∧ PyData.depth d = 0 := by
  rcases h with ⟨rfl, rfl⟩ | ⟨b, rfl, rfl⟩ | ⟨i, rfl, rfl⟩ | ⟨l, hl, rfl, rfl⟩
  · simp [PyData.canLay0, PyData.depth]
  · simp [PyData.canLay0, PyData.depth]
  · simp [PyData.canLay0, PyData.depth]
  · exact ⟨lay_dS hl, dep_dS⟩
theorem plain_tags : plain sTuple ∧ plain sList ∧ plain sTruth ∧ plain sPlain := by
  refine ⟨?_, ?_, ?_, ?_⟩ <;> (intro c hc; revert c; decide)
def tagOf : PyData → List Nat
  | .bool _ => sTruth
  | _ => sPlain
theorem mem_get {α : Type} {l : List α} {x : α} (h : x ∈ l) : ∃ i : Nat, l[i]? = some x := List.mem_iff_getElem?.mp h
end WB
namespace WB
open PySem PySem.Spec PyProof.Rows L2
def sDict : List Nat := [100, 105, 99, 116]
theorem plain_dict : plain sDict := by intro c hc; revert c; decide
theorem plain_a : plain [97] := by intro c hc; revert c; decide
def Dx (K : PySem.W.Frag) (H : Hp) : Nat → V → PyData → Prop
  | 0, v, d => Scal v d
  | n + 1, v, d => Scal v d ∨ (∃ a xs ds, v = .ref a ∧ d = .tuple ds ∧ SqT K H a xs ∧ xs.length ≤ 1000 ∧ ds.length = xs.length ∧ ∀ (i : Nat) x e, xs[i]? = some x → ds[i]? = some e → Dx K H n x e) ∨
    (∃ a xs ds, v = .ref a ∧ d = .list ds ∧ H a = some (.lst xs) ∧ xs.length ≤ 1000 ∧ ds.length = xs.length ∧ ∀ (i : Nat) x e, xs[i]? = some x → ds[i]? = some e → Dx K H n x e) ∨
    (∃ a, v = .ref a ∧ d = .dict [] ∧ H a = some (.dK [])) ∨ (∃ a y e, v = .ref a ∧ d = .dict [(dS [97], e)] ∧ H a = some (.dK [(kA, y)]) ∧ Dd K H n y e)
def faceX : Nat → PyData → PyData
  | _, .bool b => .list [dS sTruth, .bool b]
  | n + 1, .tuple ds => .list (dS sTuple :: ds.map (faceX n))
  | n + 1, .list ds => .list (dS sList :: ds.map (faceX n))
  | n + 1, .dict es => .list (dS sDict :: es.map fun e => .list [faceX n e.1, faceX n e.2])
  | _, d => .list [dS sPlain, d]
theorem Fr.up {F : Addr → Prop} {H : Hp} : ∀ (n : Nat) (v : V) (d : PyData), Fr F H n v d → Fr F H (n + 1) v d
  | 0, _, _, h => .inl h
  | n + 1, v, d, h => by
    rcases h with h | ⟨a, xs, ds, rfl, rfl, f, h1, hl, h2⟩
    · exact .inl h
    · exact .inr ⟨a, xs, ds, rfl, rfl, f, h1, hl, fun i x e hx he => Fr.up n x e (h2 i x e hx he)⟩
theorem Fr.le {F : Addr → Prop} {H : Hp} {n m : Nat} {v : V} {d : PyData} (hm : n ≤ m) (h : Fr F H n v d) : Fr F H m v d := by
  induction hm with
  | refl => exact h
  | step _ ih => exact Fr.up _ _ _ ih
def sp_law_faceX (K : PySem.W.Frag) : Nat → Sp
  | 0 => fun _ _ _ _ => False
  | n + 1 => fun vs H Q _ => ∃ v, vs = [v] ∧ ∃ d, Dx K H n v d ∧ ∀ r H', H r = none → Ex [] H H' → Fr (fun a => H a = none) H' (2 * n + 1) (.ref r) (faceX n d) → Q (.ref r) H'
theorem Dd.dx {K : PySem.W.Frag} {H : Hp} : ∀ (n : Nat) (v : V) (d : PyData), Dd K H n v d → Dx K H n v d
  | 0, _, _, h => h
  | n + 1, v, d, h => by
    rcases h with h | ⟨a, xs, ds, rfl, rfl, h1, hn, hl, h2⟩ | ⟨a, xs, ds, rfl, rfl, h1, hn, hl, h2⟩
    · exact .inl h
    · exact .inr (.inl ⟨a, xs, ds, rfl, rfl, h1, hn, hl, fun i x e hx he => Dd.dx n x e (h2 i x e hx he)⟩)
    · exact .inr (.inr (.inl ⟨a, xs, ds, rfl, rfl, h1, hn, hl, fun i x e hx he => Dd.dx n x e (h2 i x e hx he)⟩))
theorem Dx.ex {K : PySem.W.Frag} {H H' : Hp} (e : Ex [] H H') : ∀ (n : Nat) (v : V) (d : PyData), Dx K H n v d → Dx K H' n v d
  | 0, _, _, h => h
  | n + 1, v, d, h => by
    rcases h with h | ⟨a, xs, ds, rfl, rfl, h1, hn, hl, h2⟩ | ⟨a, xs, ds, rfl, rfl, h1, hn, hl, h2⟩ | ⟨a, rfl, rfl, h1⟩ | ⟨a, y, e1, rfl, rfl, h1, h2⟩
    · exact .inl h
    · exact .inr (.inl ⟨a, xs, ds, rfl, rfl, e.sqT (by simp) h1, hn, hl, fun i x y hx hy => Dx.ex e n x y (h2 i x y hx hy)⟩)
    · exact .inr (.inr (.inl ⟨a, xs, ds, rfl, rfl, e.get0 h1, hn, hl, fun i x y hx hy => Dx.ex e n x y (h2 i x y hx hy)⟩))
    · exact .inr (.inr (.inr (.inl ⟨a, rfl, rfl, e.get0 h1⟩)))
    · exact .inr (.inr (.inr (.inr ⟨a, y, e1, rfl, rfl, e.get0 h1, Dd.ex e n _ _ h2⟩)))
theorem SqT.lock {K : PySem.W.Frag} {H : Hp} {a d : Addr} {xs : List V} {u f : HO} (hd : H d = some u) (hu : ∀ ys, u ≠ .tup ys) (hf : ∀ o ys, u ≠ .frz o (.tup ys)) (h : SqT K H a xs) : SqT K (upd H d f) a xs := by
  have ne : ∀ w, H a = some w → (∀ z, w = z → z = u → False) → upd H d f a = some w := fun w hw hz => by
    rw [upd_ne (fun z => ?_)]
    · exact hw
    · rw [z, hd] at hw
      exact hz w rfl (Option.some.inj hw).symm
  rcases h with (h | ⟨o, h⟩) | h
  · exact .inl (.inl (ne _ h fun z e1 e2 => hu _ (e2.symm.trans e1.symm)))
  · exact .inl (.inr ⟨o, ne _ h fun z e1 e2 => hf _ _ (e2.symm.trans e1.symm)⟩)
  · exact .inr h
theorem Dd.lock {K : PySem.W.Frag} {H : Hp} {d : Addr} {kvs : List (Key × V)} {f : HO} (hd : H d = some (.dK kvs)) : ∀ (n : Nat) (v : V) (e : PyData), Dd K H n v e → Dd K (upd H d f) n v e
  | 0, _, _, h => h
  | n + 1, v, e, h => by
    rcases h with h | ⟨a, xs, ds, rfl, rfl, h1, hn, hl, h2⟩ | ⟨a, xs, ds, rfl, rfl, h1, hn, hl, h2⟩
    · exact .inl h
    · exact .inr (.inl ⟨a, xs, ds, rfl, rfl, SqT.lock hd (fun _ z => by cases z) (fun _ _ z => by cases z) h1, hn, hl, fun i x y hx hy => Dd.lock hd n x y (h2 i x y hx hy)⟩)
    · refine .inr (.inr ⟨a, xs, ds, rfl, rfl, ?_, hn, hl, fun i x y hx hy => Dd.lock hd n x y (h2 i x y hx hy)⟩)
      rw [upd_ne (fun z => ?_)]
      · exact h1
      · rw [z, hd] at h1
        cases h1
theorem face_scalX {n : Nat} {v : V} {d : PyData} (h : Scal v d) : faceX n d = .list [dS (tagOf d), d] := by
  rcases h with ⟨rfl, rfl⟩ | ⟨b, rfl, rfl⟩ | ⟨i, rfl, rfl⟩ | ⟨l, hl, rfl, rfl⟩ <;> cases n <;> rfl
theorem tag_plain {v : V} {d : PyData} (h : Scal v d) : plain (tagOf d) := by
  rcases h with ⟨rfl, rfl⟩ | ⟨b, rfl, rfl⟩ | ⟨i, rfl, rfl⟩ | ⟨l, hl, rfl, rfl⟩
  · exact plain_tags.2.2.2
  · exact plain_tags.2.2.1
  · exact plain_tags.2.2.2
  · exact plain_tags.2.2.2
theorem lay_list {m : Nat} {ds : List PyData} (h : ∀ e ∈ ds, PyData.canLay0 e = true ∧ PyData.depth e ≤ m) : PyData.canLay0 (.list ds) = true ∧ PyData.depth (.list ds) ≤ m + 1 := by
  constructor
  · rw [PyData.canLay0]
    exact lay_all fun e he => (h e he).1
  · rw [PyData.depth]
    have := dep_all fun e he => (h e he).2
    omega
theorem Fr.shape {F : Addr → Prop} {H : Hp} : ∀ (n : Nat) (v : V) (d : PyData), Fr F H n v d → PyData.canLay0 d = true ∧ PyData.depth d ≤ n
  | 0, v, d, h => by
    obtain ⟨h1, h2⟩ := scal_shape h
    exact ⟨h1, by omega⟩
  | n + 1, v, d, h => by
    rcases h with h | ⟨a, xs, ds, rfl, rfl, f, h1, hl, h2⟩
    · obtain ⟨h1, h2⟩ := scal_shape h
      exact ⟨h1, by omega⟩
    · refine lay_list fun e he => ?_
      obtain ⟨i, hi⟩ := mem_get he
      have hlt : i < xs.length := by
        have := (List.getElem?_eq_some_iff.mp hi).1
        omega
      exact Fr.shape n _ _ (h2 i xs[i] e (List.getElem?_eq_getElem hlt) hi)
theorem Fr.shaped {F : Addr → Prop} {H : Hp} {n : Nat} {v : V} {d : PyData} (hn : n ≤ 20) (h : Fr F H n v d) : SeqAt.shaped d = true := by
  obtain ⟨h1, h2⟩ := Fr.shape n v d h
  unfold SeqAt.shaped
  exact Bool.and_eq_true_iff.mpr ⟨h1, decide_eq_true (by omega)⟩
section
variable {K : PySem.W.Frag} {H : Hp} {Q : VK} {E : XK}
theorem s_eqFr {F F' : Addr → Prop} {n m : Nat} {x y : V} {d : PyData} (hn : n ≤ 20) (h1 : Fr F H n x d) (h2 : Fr F' H m y d) (k : Q (.bl true) H) : rEqD K x y H Q := by
  have hs := h1.shaped hn
  refine ⟨_, _, Fr.dp n x _ h1, Fr.dp m y _ h2, hs, hs, ?_⟩
  rw [SeqAt.eqv_refl _ (Bool.and_eq_true_iff.mp hs).1]
  exact k
theorem u_faceX {n : Nat} {v : V} {d : PyData} (h : Dx K H n v d) (k : ∀ r H', H r = none → Ex [] H H' → Fr (fun a => H a = none) H' (2 * n + 1) (.ref r) (faceX n d) → Q (.ref r) H') : sp_law_faceX K (n + 1) ([v] ++ []) H Q E := ⟨v, rfl, d, h, k⟩
theorem lc_facesX {J : It} {G : Hp → Prop} {xs : List V} {ds : List PyData} {n j : Nat} {σ : St} {E : XK} (w : Walk J xs.length G (YAt xs)) (hG : ∀ H1, Ex [] H H1 → G H1) (hn : xs.length ≤ 1000) (hj : j < σ.length) (hl : ds.length = xs.length)
    (hd : ∀ (i : Nat) x e, xs[i]? = some x → ds[i]? = some e → Dx K H n x e)
    (k : ∀ D H' ys, H D = none → Ex [] H H' → H' D = some (.lst ys) → ys.length = ds.length → (∀ (i : Nat) y e, ys[i]? = some y → ds[i]? = some e → Fr (fun a => H a = none ∧ a ≠ D) H' (2 * n + 1) y (faceX n e)) → Q (.ref D) H') :
    LcW J (gName j) tYes (tCall (sp_law_faceX K (n + 1)) [] E (tCons (tVar j) tNil)) [j] σ H Q := by
  intro D hD
  refine lc_it w (fun i H1 => Ex [] H H1 ∧ ∃ ys, H1 D = some (.lst ys) ∧ ys.length = i ∧ ∀ (m : Nat) y e, ys[m]? = some y → ds[m]? = some e → Fr (fun a => H a = none ∧ a ≠ D) H1 (2 * n + 1) y (faceX n e)) ⟨Ex.new hD, [], upd_same, rfl, by simp⟩ (fun i H1 _ h => hG H1 h.1) ?_ ?_
  · rintro i x H1 H2 hi ⟨e, ys, hy, hyl, hf⟩ ⟨rfl, hx⟩
    refine ⟨wipe1 _ _ _, ?_⟩
    refine s_yes ?_
    refine s_T rfl ?_
    refine s_call ?_
    refine s_cons ?_
    refine s_var (v := x) (by rw [List.getElem?_set_self (by simp [wipe]; exact hj)]) ?_
    refine s_nil ?_
    have hid : i < ds.length := by omega
    refine u_faceX (d := ds[i]) (Dx.ex e n x _ (hd i x _ hx (List.getElem?_eq_getElem hid))) fun r H5 hr e5 hfr => ?_
    have hDn : H2 D ≠ none := by rw [hy]; simp
    refine ⟨ys, e5.get0 hy, by rw [hyl]; exact Nat.lt_of_lt_of_le hi (Nat.le_trans hn (by decide)), ?_, ys ++ [.ref r], upd_same, by simp [hyl], ?_⟩
    · intro b o nb hb
      rw [upd_ne (ne_of_none hb hD)]
      exact e5 b o nb (e b o nb hb)
    · intro m y e' hm he
      by_cases hmi : m < i
      · rw [List.getElem?_append_left (by omega)] at hm
        refine Fr.mono (fun a h => h) (fun a zs fa ha => ?_) _ _ _ (hf m y e' hm he)
        rw [upd_ne fa.2]
        exact e5.get0 ha
      · have hmi' : m = i := by
          have := (List.getElem?_eq_some_iff.mp hm).1
          simp at this
          omega
        subst hmi'
        rw [List.getElem?_append_right (by omega)] at hm
        have : y = .ref r := by
          simp [hyl] at hm
          exact hm.symm
        subst this
        rw [List.getElem?_eq_getElem hid] at he
        cases he
        refine Fr.mono (fun a h => ⟨e.free h, fun z => hDn (z ▸ h)⟩) (fun a zs fa ha => ?_) _ _ _ hfr
        rw [upd_ne (show a ≠ D from fun z => hDn (z ▸ fa))]
        exact ha
  · rintro H1 ⟨e, ys, hy, hyl, hf⟩
    exact k D H1 ys hD e hy (by omega) hf
theorem s_lockE {t : TE} {σ : St} {d : Addr} {kvs : List (Key × V)} (hd : H d = some (.dK kvs)) (k : ∀ od, t σ (upd H d (.frz od (.dK kvs))) fun v H' => H' d = some (.frz od (.dK kvs)) ∧ Q v (upd H' d (.dK kvs))) : tLockE t σ H Q := ⟨d, _, hd, True.intro, k⟩
theorem s_iKeys {te : TE} {σ : St} {R : It → Hp → Prop} (k : te σ H fun x H1 => ∃ d o, x = .ref d ∧ ((∃ kvs, H1 d = some (.frz o (.dK kvs)) ∧ R (Itk d o kvs) H1) ∨ ∃ kvs, H1 d = some (.frz o (.dT kvs)) ∧ R (Itkt d o kvs) H1)) : iKeys te σ H R := k
theorem lc_none {d : Addr} {o : Obj} {g : TG} {tt : TT} {te : TE} {vs : List Nat} {σ : St} (hd : H d = some (.frz o (.dK []))) (k : ∀ D, H D = none → Q (.ref D) (upd H D (.lst []))) : LcW (Itk d o []) g tt te vs σ H Q := by
  intro D hD
  refine ⟨fun i m H' => H' = upd H D (.lst []), ⟨0, rfl⟩, fun i m H' e => .inl ⟨⟨?_, Nat.zero_le _⟩, ?_⟩⟩
  · rw [e, upd_ne (ne_of_none hd hD)]
    exact hd
  · rw [e]
    exact k D hD
theorem lc_one {d : Addr} {o : Obj} {z : Key} {v1 : V} {te : TE} {j : Nat} {σ : St} (hd : H d = some (.frz o (.dK [(z, v1)])))
    (h : ∀ D, H D = none → ∀ C : VK, (∀ y H4, H4 D = some (.lst []) → H4 d = some (.frz o (.dK [(z, v1)])) → Q (.ref D) (upd H4 D (.lst [y])) → C y H4) → te ((wipe σ [j]).set j (some (kV z))) (upd H D (.lst [])) C) : LcW (Itk d o [(z, v1)]) (gName j) tYes te [j] σ H Q := by
  intro D hD
  have nd : d ≠ D := ne_of_none hd hD
  refine ⟨fun i m H' => (i = 0 ∧ m = 1 ∧ H' = upd H D (.lst [])) ∨ (i = 1 ∧ m = 0 ∧ H' d = some (.frz o (.dK [(z, v1)])) ∧ Q (.ref D) H'), ⟨1, .inl ⟨rfl, rfl, rfl⟩⟩, fun i m H' hw => ?_⟩
  rcases hw with ⟨rfl, rfl, rfl⟩ | ⟨rfl, rfl, h1, h2⟩
  · refine .inr ⟨⟨by rw [upd_ne nd]; exact hd, Nat.zero_lt_one⟩, fun H' => H' d = some (.frz o (.dK [(z, v1)])) ∧ Q (.ref D) H', fun H' h1 => ⟨0, by decide, .inr ⟨rfl, rfl, h1.1, h1.2⟩⟩, ?_⟩
    rintro x H2 ⟨rfl, k0, v0, hk, rfl⟩
    cases hk
    refine ⟨wipe1 _ _ _, ?_⟩
    refine s_yes ?_
    refine s_T rfl ?_
    refine h D hD _ fun y H4 h3 h4 h5 => ⟨[], h3, by decide, ?_, h5⟩
    rw [upd_ne nd]
    exact h4
  · exact .inl ⟨⟨h1, Nat.le_refl _⟩, h2⟩
theorem lock_ex {a : Addr} {u f : HO} {H' : Hp} (ha : H a = some u) (e : Ex [] (upd H a f) H') : Ex [] H (upd H' a u) := by
  intro b o nb hb
  by_cases h : b = a
  · subst h
    rw [ha] at hb
    rw [← hb, upd_same]
  · rw [upd_ne h]
    exact e b o nb (by rw [upd_ne h]; exact hb)
end
end WB
namespace WB
open PySem PySem.Spec PyProof.Rows L2
local macro_rules | `(tactic| walk_at "lit") => `(tactic| first | exact lit_abc | exact lit_empty)
local macro_rules | `(tactic| walk_at "nm") => `(tactic| focus first | exact List.not_mem_nil | (simp only [List.mem_singleton]; first | assumption | (exact Ne.symm (by assumption)) | (intro hz; subst hz; simp_all; done)))
local macro_rules | `(tactic| walk_at "hp") => `(tactic| first | assumption | (apply Ex.get0 (by assumption); walk_at "hp") | (apply Ex.get (by assumption); (walk_at "nm"); (walk_at "hp")))
local macro_rules | `(tactic| walk_at "sq") => `(tactic| first | assumption | (apply SqL.of; walk_at "hp") | (apply Ex.sqL (by assumption); (walk_at "nm"); (walk_at "sq")))
local macro_rules | `(tactic| walk_at "sqt") => `(tactic| first | assumption | (apply SqT.of; walk_at "hp") | (apply Ex.sqT (by assumption); (walk_at "nm"); (walk_at "sqt")))
local macro_rules | `(tactic| walk_at "sz") => `(tactic| focus ((with_reducible refine Nat.le_trans (m := 100000) ?_ (by decide)); first | omega | (simp; done) | (simp; omega)))
local macro_rules | `(tactic| walk_at "mul") => `(tactic| first | exact Or.inr ⟨by omega, by omega⟩ | exact Or.inl ⟨by omega, by omega⟩)
local macro_rules | `(tactic| walk_at "pool") => `(tactic| first | assumption | (apply PoolAt.ex (by assumption); (walk_at "nm"); (walk_at "pool")))
local macro_rules | `(tactic| walk_at "ring") => `(tactic| first | assumption | (apply RingAt.ex (by assumption); (walk_at "nm"); (walk_at "ring")))
local macro_rules | `(tactic| walk_at "st") => `(tactic| first
  | with_reducible refine s_seq ?_
  | with_reducible refine s_asg ?_
  | with_reducible refine s_gName ?_
  | with_reducible refine s_ret ?_
  | with_reducible refine s_ifS ?_
  | with_reducible refine s_next ?_
  | with_reducible refine s_op ?_
  | ((with_reducible apply s_var); exact rfl)
  | ((with_reducible apply s_cS); (walk_at "lit"))
  | with_reducible refine s_c ?_
  | with_reducible refine s_cb ?_
  | with_reducible refine s_cons ?_
  | with_reducible refine s_nil ?_
  | with_reducible refine s_un ?_
  | with_reducible refine s_call ?_
  | with_reducible refine s_test ?_
  | with_reducible refine s_tB ?_
  | with_reducible refine s_blQ ?_
  | with_reducible refine s_not ?_
  | with_reducible refine s_and ?_
  | with_reducible refine s_or ?_
  | with_reducible refine s_andV ?_
  | with_reducible refine s_orV ?_
  | with_reducible refine s_notV ?_
  | with_reducible refine s_ifE ?_
  | with_reducible refine s_chain ?_
  | ((with_reducible refine s_T ?_ ?_); (with_reducible exact rfl))
  | with_reducible refine s_nT ?_
  | with_reducible refine s_nF ?_
  | ((with_reducible refine s_F ?_ ?_); (with_reducible exact rfl))
  | ((with_reducible refine s_T ?_ ?_); assumption)
  | ((with_reducible refine s_F ?_ ?_); assumption)
  | ((with_reducible refine s_nB ?_ ?_); assumption)
  | ((with_reducible refine s_nA ?_ ?_); assumption)
  | ((with_reducible refine s_Td ?_ ?_); omega)
  | ((with_reducible refine s_Fd ?_ ?_); omega)
  | ((with_reducible refine s_nTd ?_ ?_); omega)
  | ((with_reducible refine s_nFd ?_ ?_); omega)
  | with_reducible refine s_sfld ?_
  | with_reducible refine s_addI ?_
  | with_reducible refine s_subI ?_
  | ((with_reducible refine s_mulI ?_ ?_); (walk_at "mul"))
  | ((with_reducible refine s_divI ?_ ?_); exact ⟨by omega, by omega⟩)
  | ((with_reducible refine s_modI ?_ ?_); omega)
  | ((with_reducible refine s_powI ?_ ?_); exact ⟨by decide, by decide, by decide⟩)
  | with_reducible refine s_ltI ?_
  | with_reducible refine s_leI ?_
  | with_reducible refine s_gtI ?_
  | with_reducible refine s_geI ?_
  | with_reducible refine s_negI ?_
  | with_reducible refine s_absI ?_
  | with_reducible refine s_intI ?_
  | with_reducible refine s_min2 ?_
  | with_reducible refine s_max2 ?_
  | with_reducible refine s_eqI ?_
  | with_reducible refine s_neI ?_
  | with_reducible refine s_eqS ?_
  | with_reducible refine s_neS ?_
  | with_reducible refine s_inSg ?_
  | with_reducible refine s_notInSg ?_
  | ((with_reducible refine s_addS ?_ ?_); (walk_at "sz"))
  | ((with_reducible refine s_lenS ?_ ?_); (walk_at "sz"))
  | ((with_reducible apply s_lenL); (walk_at "sq"))
  | ((with_reducible apply s_lenT); (walk_at "sqt"))
  | ((with_reducible apply s_ixL); (walk_at "sq"); exact rfl)
  | ((with_reducible apply s_ixT); (walk_at "sqt"); exact rfl)
  | with_reducible refine s_gSub ?_
  | ((with_reducible apply s_setL); (walk_at "hp"); (exact rfl); (intro _ _ _))
  | ((with_reducible refine s_alloc ?_ ?_); (walk_at "sz"); (intro _ _ _ _ _))
  | ((with_reducible refine s_divmod ?_ ?_); (exact ⟨by omega, PyProof.noPylong_small (by omega)⟩); (intro _ _ _ _ _))
  | ((with_reducible apply s_gTup); (walk_at "sqt"); (exact rfl))
  | ((with_reducible apply s_gLst); (walk_at "sq"); (exact rfl))
  | with_reducible refine s_gCons ?_
  | with_reducible refine s_gNil ?_
  | with_reducible refine s_lc ?_
  | ((with_reducible apply s_cat); (walk_at "hp"); (walk_at "hp"); (walk_at "sz"); (intro _ _ _ _ _))
  | ((with_reducible apply s_slL); (walk_at "sq"); (intro _ _ _ _ _))
  | with_reducible refine s_for ?_
  | with_reducible refine s_rng1 ?_
  | ((with_reducible refine s_rng1i ?_ ?_); (constructor <;> omega))
  | with_reducible refine s_rng2 ?_
  | ((with_reducible refine s_rng2i ?_ ?_); (refine ⟨?_, ?_, ?_, ?_⟩ <;> omega))
  | with_reducible refine s_iStr ?_
  | with_reducible refine s_iStrS ?_
  | with_reducible refine s_iList ?_
  | ((with_reducible apply s_iListA); (walk_at "sq"))
  | with_reducible refine s_iTup ?_
  | ((with_reducible apply s_iTupA); (walk_at "sqt"))
  | with_reducible refine s_sl ?_
  | with_reducible refine s_noPart ?_
  | with_reducible refine s_part ?_
  | with_reducible refine s_int1 ?_
  | ((with_reducible refine s_slS ?_ ?_); (walk_at "sz"))
  | with_reducible refine s_tup ?_
  | with_reducible refine s_lst ?_
  | with_reducible refine s_par ?_
  | with_reducible refine s_pair ?_
  | with_reducible refine s_M1 ?_
  | with_reducible refine s_isStr ?_
  | with_reducible refine s_revS ?_
  | ((with_reducible refine s_revS1 ?_ ?_); (walk_at "sz"))
  | with_reducible refine s_fldE ?_
  | with_reducible refine s_propE ?_
  | ((with_reducible refine u_draw ?_ ?_ ?_ ?_); omega; omega; (walk_at "pool"); (intro _ _ _ _ _ _))
  | ((with_reducible refine u_pool ?_); (intro _ _ _ _ _))
  | with_reducible refine u_is_integer ?_
  | with_reducible refine s_isiII ?_
  | with_reducible refine s_isiIB ?_
  | with_reducible refine s_isiSS ?_
  | ((with_reducible apply u_fldRing); assumption; (walk_at "ring"))
  | ((with_reducible apply u_textP); (walk_at "ring"))
  | ((with_reducible apply u_strRing); (walk_at "ring"))
  | ((with_reducible apply u_eqRing); (walk_at "ring"); (walk_at "ring"))
  | ((with_reducible apply u_isiRing); assumption; (walk_at "ring"))
  | ((with_reducible refine u_is_word ?_ ?_); omega; (intro _ _))
  | ((with_reducible refine u_turnings ?_ ?_); omega; (intro _ _ _ _ _))
  | with_reducible refine s_makeE ?_
  | with_reducible refine s_methE ?_)
local macro_rules | `(tactic| walk_at "go") => `(tactic| repeat (walk_at "st"))
local macro_rules | `(tactic| walk_at "exs") => `(tactic| first | exact Ex.rfl | assumption | (apply Ex.snoc (by assumption); walk_at "exs") | (apply Ex.snocW (by assumption); walk_at "exs"))
def t_law_cell (K : PySem.W.Frag) : TS :=
  (tSeq (tIfS (tTest (tOp rLtI (tVar 1) (tCB (rLenV K) (tCons (tVar 0) tNil)))) (tRet (tOp (rIxL K) (tVar 0) (tVar 1))) tNext)
  (tSeq (tAsg (tOp rAddI (tC (.int 70001)) (tOp rMulI (tOp rMulI (tC (.int 4093)) (tVar 1)) (tVar 1))) (gName 2))
  (tSeq (tFor (iList K (tSl (rSlL K) (tVar 0) tNoPart (tPart (tC (.int 4))))) (gName 3) (tAsg (tOp rModI (tCB rIntI (tCons (tOp rAddI (tOp rMulI (tVar 2) (tC (.int 521))) (tVar 3)) tNil)) (tC (.int 2147483629))) (gName 2)))
  (tRet (tVar 2)))))
def t_law_pool (K : PySem.W.Frag) : TS :=
  (tSeq (tAsg (tIf (tOr (tTest (tOp rLtI (tVar 0) (tC (.int 0)))) (tTest (tOp rGeI (tVar 0) (tOp rPowI (tC (.int 10)) (tC (.int 18)))))) (tCB rAbsI (tCons (tVar 0) tNil)) (tC (.int 0))) (gName 1))
  (tRet (tLst (tCons (tOp rModI (tCB rIntI (tCons (tVar 0) tNil)) (tC (.int 2147483587))) (tCons (tVar 1) (tCons (tC (.int 0)) tNil))))))
def t_law_draw (K : PySem.W.Frag) : TS :=
  (tSeq (tAsg (tOp rAddI (tOp (rIxL K) (tVar 0) (tC (.int 2))) (tC (.int 1))) (gSub (tVar 0) (tC (.int 2)) rSetL))
  (tSeq (tAsg (tOp rModI (tCB rIntI (tCons (tOp rAddI (tOp rAddI (tOp rMulI (tOp (rIxL K) (tVar 0) (tC (.int 0))) (tC (.int 50021))) (tOp rMulI (tOp (rIxL K) (tVar 0) (tC (.int 2))) (tC (.int 69067)))) (tC (.int 31))) tNil)) (tC (.int 2147483587))) (gName 2))
  (tSeq (tAsg (tOp rModI (tCB rIntI (tCons (tOp rMulI (tVar 2) (tOp rAddI (tOp rDivI (tVar 2) (tC (.int 1024))) (tC (.int 12829)))) tNil)) (tC (.int 2147483629))) (gSub (tVar 0) (tC (.int 0)) rSetL))
  (tSeq (tIfS (tTest (tOp rGtI (tOp (rIxL K) (tVar 0) (tC (.int 1))) (tC (.int 0)))) (tSeq (tAsg (tCB rDivmod (tCons (tOp (rIxL K) (tVar 0) (tC (.int 1))) (tCons (tVar 1) tNil))) (gTup K 2 (gCons (gSub (tVar 0) (tC (.int 1)) rSetL) (gCons (gName 3) gNil))))
  (tRet (tVar 3))) tNext)
  (tRet (tOp rModI (tCB rIntI (tCons (tOp rDivI (tOp (rIxL K) (tVar 0) (tC (.int 0))) (tC (.int 53))) tNil)) (tVar 1)))))))
abbrev E1 (Q : VK) : Ends := ⟨fun _ H' => Q .non H', Q, fun _ _ => False, fun _ _ => False⟩
section
variable {K : PySem.W.Frag} {vs : List V} {H : Hp} {Q : VK} {E : XK}
theorem pure_law_draw (h : sp_law_draw K vs H Q E) : t_law_draw K (E1 Q) (start ["_law_pool_here", "_law_many", "_law_mixed", "_law_digit"] vs) H := by
  obtain ⟨a, m, rfl, h0, h1, ⟨x, y, z, hp⟩, k⟩ := h
  show t_law_draw K (E1 Q) [some (.ref a), some (.int m), none, none] H
  unfold t_law_draw
  walk_at "go"
  refine s_2 (fun hb => ?_) (fun hb => ?_)
  · walk_at "go"
    exact k _ _ (Int.emod_nonneg _ (by omega)) (Int.emod_lt_of_pos _ h0) (by walk_at "exs") ⟨_, _, _, by walk_at "hp"⟩
  · walk_at "go"
    exact k _ _ (Int.emod_nonneg _ (by omega)) (Int.emod_lt_of_pos _ h0) (by walk_at "exs") ⟨_, _, _, by walk_at "hp"⟩
theorem pure_law_pool (h : sp_law_pool K vs H Q E) : t_law_pool K (E1 Q) (start ["_law_cell_here", "_law_digits"] vs) H := by
  obtain ⟨c, rfl, k⟩ := h
  show t_law_pool K (E1 Q) [some (.int c), none] H
  unfold t_law_pool
  walk_at "go"
  refine s_2 (fun hb => ?_) (fun hb => ?_)
  · walk_at "go"
    exact k _ _ (by assumption) (by walk_at "exs") ⟨_, _, _, by walk_at "hp"⟩
  · walk_at "go"
    refine s_2 (fun hb => ?_) (fun hb => ?_)
    · walk_at "go"
      exact k _ _ (by assumption) (by walk_at "exs") ⟨_, _, _, by walk_at "hp"⟩
    · walk_at "go"
      exact k _ _ (by assumption) (by walk_at "exs") ⟨_, _, _, by walk_at "hp"⟩
theorem pure_law_cell (h : sp_law_cell K vs H Q E) : t_law_cell K (E1 Q) (start ["_law_script", "_law_k", "_law_mixed", "_law_cell_here"] vs) H := by
  obtain ⟨a, ns, n, rfl, hs, hl, h0, h1, k⟩ := h
  show t_law_cell K (E1 Q) [some (.ref a), some (.int n), none, none] H
  unfold t_law_cell
  walk_at "go"
  refine s_2 (fun hb => ?_) (fun hb => ?_)
  · have hb := of_decide_eq_true hb
    rw [List.length_map] at hb
    have hx : ns[n.toNat]? = some (ns[n.toNat]'(by omega)) := List.getElem?_eq_getElem _
    walk_at "go"
    refine s_ixL hs (atI_of h0 (by rw [List.getElem?_map, hx]; rfl)) ?_
    exact k _ _ Ex.rfl
  · walk_at "go"
    rename_i p H2 hp e2 h2
    refine for_run walk_list (fun i σ H1 => ∃ (c : Int) (x : Option V), σ = [some (.ref a), some (.int n), some (.int c), x] ∧ Ex [] H H1 ∧ H1 p = some (.lst (cutV (ns.map V.int) none (some 4)))) ⟨_, none, rfl, e2, h2⟩ (fun i σ H1 _ ⟨_, _, _, _, h⟩ => SqL.of h) ?_ ?_
    · rintro i x σ H1 H3 hi ⟨c, y, rfl, e, hc⟩ ⟨rfl, hx⟩
      obtain ⟨z, _, rfl⟩ := List.mem_map.mp (mem_cutV (List.mem_of_getElem? hx))
      walk_at "go"
      exact ⟨_, _, rfl, e, hc⟩
    · rintro σ H1 ⟨c, y, rfl, e, hc⟩
      walk_at "go"
      exact k _ _ e
end
end WB
namespace WB
open PySem PySem.Spec PyProof.Rows L2
end WB
namespace WB
open PySem PySem.Spec PyProof.Rows L2
end WB
namespace WB
open PySem PySem.Spec PyProof.Rows L2
section
variable {K : PySem.W.Frag} {H H' : Hp} {a b p : Addr} {l l' : List Nat} {ps ps' : List (List Nat)} {Q : VK} {E : XK}
def sp_Kind_signs (K : PySem.W.Frag) : Sp := fun vs H Q _ => ∃ a : Addr, vs = [.ref a] ∧ ∃ l ps, KindAt K H a l ps ∧ Q (vS l) H
def RowAt (K : PySem.W.Frag) (H : Hp) (q : Addr) (l : List Nat) (ps : List (List Nat)) : Prop := ∃ t, SqT K H q [vS l, .ref t] ∧ SqT K H t (ps.map vS)
theorem RowAt.ex0 (e : Ex [] H H') (h : RowAt K H a l ps) : RowAt K H' a l ps := by
  obtain ⟨t, h1, h2⟩ := h
  exact ⟨t, e.sqT (by simp) h1, e.sqT (by simp) h2⟩
theorem u_kSigns (h : KindAt K H a l ps) (k : Q (vS l) H) : PropG (He.ga K "Kind") (sp_Kind_signs K) [] E (.ref a) H Q := by
  obtain ⟨dx, t, h1, h2⟩ := id h
  exact ⟨a, dx, _, rfl, h1, a, rfl, l, ps, h, k⟩
theorem s_cmeth {C : Addr} {sp : Sp} {E : XK} {ta : TE} {tr : TA} {σ : St} (k : ta σ H fun x H1 => x = .ref C ∧ tr σ H1 fun vs H2 => sp (.ref C :: vs) H2 Q E) : ClX.tCMeth C sp E ta tr σ H Q := k
theorem s_cmethK {C : Addr} {n : Nat} {gV : List V → List V → List V} {sp : Sp} {E : XK} {ta : TE} {tr : TA} {σ : St} (k : ta σ H fun x H1 => x = .ref C ∧ tr σ H1 fun zs H2 => zs.length = n ∧ sp (gV [.ref C] zs) H2 Q E) : tCMethK C n sp gV E ta tr σ H Q := k
theorem s_self {x : V} {A : Prop} (k : A) : x = x ∧ A := ⟨rfl, k⟩
end
end WB
namespace WB
open PySem PySem.Spec PyProof.Rows L2
end WB
namespace WB
open PySem PySem.Spec PyProof.Rows L2
theorem lit_116_117_112_108_101 : ("tuple" : Str) = S [116, 117, 112, 108, 101] := by decide +kernel
theorem lit_108_105_115_116 : ("list" : Str) = S [108, 105, 115, 116] := by decide +kernel
theorem lit_100_105_99_116 : ("dict" : Str) = S [100, 105, 99, 116] := by decide +kernel
theorem lit_116_114_117_116_104 : ("truth" : Str) = S [116, 114, 117, 116, 104] := by decide +kernel
theorem lit_112_108_97_105_110 : ("plain" : Str) = S [112, 108, 97, 105, 110] := by decide +kernel
end WB
namespace WB
open PySem PySem.Spec PyProof.Rows L2
def MRK : List Nat := LET ++ [48, 49, 50, 51, 52, 53, 54, 55, 56, 57]
theorem lit_MRK : ("abcdefghijklmnopqrstuvwxyz0123456789" : Str) = S MRK := by decide +kernel
structure Rw where
  a : List Nat
  c : Nat
  b : List Nat
  n : Int
structure Tn where
  a : List Nat
  b : List Nat
  n : Int
structure LM where
  ab : List Nat
  st : List (List Nat)
  tb : List Nat → Nat → List Nat × Int
  en : List Nat → List Nat × Int
  ok : List (List Nat)
def rwV (r : Rw) : List V := [vS r.a, vS [r.c], vS r.b, .int r.n]
def tnV (t : Tn) : List V := [vS t.a, vS t.b, .int t.n]
def TupsAt (K : PySem.W.Frag) (H : Hp) (t : Addr) (ls : List (List V)) : Prop := ∃ xs, SqT K H t xs ∧ xs.length = ls.length ∧ ∀ (i : Nat) x l, xs[i]? = some x → ls[i]? = some l → ∃ p, x = .ref p ∧ SqT K H p l
section
variable {K : PySem.W.Frag} {H H' : Hp} {Q : VK} {E : XK} {t a : Addr}
theorem TupsAt.ex0 {ls : List (List V)} (e : Ex [] H H') (h : TupsAt K H t ls) : TupsAt K H' t ls := by
  obtain ⟨xs, h1, h2, h3⟩ := h
  refine ⟨xs, e.sqT (by simp) h1, h2, fun i x l hx hl => ?_⟩
  obtain ⟨p, h4, h5⟩ := h3 i x l hx hl
  exact ⟨p, h4, e.sqT (by simp) h5⟩
end
end WB
namespace WB
open PySem PySem.Spec PyProof.Rows L2
section
variable {K : PySem.W.Frag} {vs : List V} {H : Hp} {Q : VK} {E : XK}
def PrsAt (K : PySem.W.Frag) (H : Hp) (q : Addr) (zs : List (List Nat × Nat)) : Prop := ∃ xs, H q = some (.lst xs) ∧ xs.length = zs.length ∧ ∀ (i : Nat) x z, xs[i]? = some x → zs[i]? = some z → ∃ p, x = .ref p ∧ SqT K H p [vS z.1, vS [z.2]]
theorem PrsAt.ex0 {q : Addr} {zs : List (List Nat × Nat)} {H' : Hp} (e : Ex [] H H') (h : PrsAt K H q zs) : PrsAt K H' q zs := by
  obtain ⟨xs, h1, h2, h3⟩ := h
  refine ⟨xs, e.get0 h1, h2, fun i x z hx hz => ?_⟩
  obtain ⟨p, h4, h5⟩ := h3 i x z hx hz
  exact ⟨p, h4, e.sqT (by simp) h5⟩
end
end WB
namespace WB
open PySem PySem.Spec PyProof.Rows L2
def kS (l : List Nat) : Key := .inr (S l)
def TabOk (K : PySem.W.Frag) (H : Hp) (kt : List (List Key × V)) (M : LM) : Prop := ∀ a ∈ M.st, ∀ c ∈ M.ab, ∃ p, valV kt [kS a, kS [c]] = some (.ref p) ∧ SqT K H p [vS (M.tb a c).1, .int (M.tb a c).2]
def EndOk (K : PySem.W.Frag) (H : Hp) (ke : List (Key × V)) (M : LM) : Prop := ∀ a ∈ M.st, ∃ p, valV ke (kS a) = some (.ref p) ∧ SqT K H p [vS (M.en a).1, .int (M.en a).2]
def LoopAt (K : PySem.W.Frag) (H : Hp) (x : Addr) (M : LM) : Prop := ∃ dx o tt te tm kt ke, H x = some (.ins (He.ga K "Loop") dx [("letters", vS M.ab), ("order", .ref o), ("table", .ref tt), ("ending", .ref te), ("marked", .ref tm)]) ∧
  SqT K H o (M.st.map vS) ∧ H tt = some (.dT kt) ∧ TabOk K H kt M ∧ H te = some (.dK ke) ∧ EndOk K H ke M ∧ SqT K H tm (M.ok.map vS)
section
variable {K : PySem.W.Frag} {H H' : Hp} {Q : VK} {E : XK} {x a : Addr} {M : LM}
theorem TabOk.ex0 {kt : List (List Key × V)} (e : Ex [] H H') (h : TabOk K H kt M) : TabOk K H' kt M := fun a ha c hc => by
  obtain ⟨p, h1, h2⟩ := h a ha c hc
  exact ⟨p, h1, e.sqT (by simp) h2⟩
theorem EndOk.ex0 {ke : List (Key × V)} (e : Ex [] H H') (h : EndOk K H ke M) : EndOk K H' ke M := fun a ha => by
  obtain ⟨p, h1, h2⟩ := h a ha
  exact ⟨p, h1, e.sqT (by simp) h2⟩
theorem LoopAt.ex0 (e : Ex [] H H') (h : LoopAt K H x M) : LoopAt K H' x M := by
  obtain ⟨dx, o, tt, te, tm, kt, ke, h1, h2, h3, h4, h5, h6, h7⟩ := h
  exact ⟨dx, o, tt, te, tm, kt, ke, e.get0 h1, e.sqT (by simp) h2, e.get0 h3, h4.ex0 e, e.get0 h5, h6.ex0 e, e.sqT (by simp) h7⟩
def DcTW (J : It) (g : TG) (tt : TT) (tk tv : TE) (vs : List Nat) (σ : St) (H1 : Hp) (Q : VK) : Prop := ∀ D, H1 D = none → ∃ W : Nat → Nat → Hp → Prop, (∃ m, W 0 m (upd H1 D (.dT []))) ∧ ∀ i m H, W i m H →
  (J.stop i H ∧ Q (.ref D) H) ∨ (J.go i H ∧ ∃ Nx : Hp → Prop, (∀ H', Nx H' → ∃ m', m' < m ∧ W (i + 1) m' H') ∧ ∀ x H', J.yld i H x H' → g x (wipe σ vs) H' fun σ2 H2 => wipe σ2 vs = wipe σ vs ∧ tt σ2 H2 fun c H3 =>
    if c = true then tk σ2 H3 fun y H4 => tv σ2 H4 fun z H5 => ∃ kvs k b, y = .ref b ∧ H5 b = some (.tup (k.map kV)) ∧ H5 D = some (.dT kvs) ∧ kvs.length < sizeLine ∧ Nx (upd H5 D (.dT (putK kvs k z))) else Nx H3)
theorem s_dcT {wi : TI} {g : TG} {tt : TT} {tk tv : TE} {vs : List Nat} {σ : St} (k : wi σ H fun J H1 => DcTW J g tt tk tv vs σ H1 Q) : tDcT wi g tt tk tv vs σ H Q := k
def DcW (J : It) (g : TG) (tt : TT) (tk tv : TE) (vs : List Nat) (σ : St) (H1 : Hp) (Q : VK) : Prop := ∀ D, H1 D = none → ∃ W : Nat → Nat → Hp → Prop, (∃ m, W 0 m (upd H1 D (.dK []))) ∧ ∀ i m H, W i m H →
  (J.stop i H ∧ Q (.ref D) H) ∨ (J.go i H ∧ ∃ Nx : Hp → Prop, (∀ H', Nx H' → ∃ m', m' < m ∧ W (i + 1) m' H') ∧ ∀ x H', J.yld i H x H' → g x (wipe σ vs) H' fun σ2 H2 => wipe σ2 vs = wipe σ vs ∧ tt σ2 H2 fun c H3 =>
    if c = true then tk σ2 H3 fun y H4 => tv σ2 H4 fun z H5 => ∃ kvs k, y = kV k ∧ H5 D = some (.dK kvs) ∧ kvs.length < sizeLine ∧ Nx (upd H5 D (.dK (putK kvs k z))) else Nx H3)
theorem s_dc {wi : TI} {g : TG} {tt : TT} {tk tv : TE} {vs : List Nat} {σ : St} (k : wi σ H fun J H1 => DcW J g tt tk tv vs σ H1 Q) : tDc wi g tt tk tv vs σ H Q := k
end
end WB
namespace WB
open PySem PySem.Spec PyProof.Rows L2
end WB
namespace WB
open PySem PySem.Spec PyProof.Rows L2
def stp (M : LM) (z : List Nat × Int) (c : Nat) : List Nat × Int := ((M.tb z.1 c).1, z.2 + (M.tb z.1 c).2)
def run (M : LM) (a : List Nat) (w : List Nat) : List Nat × Int := w.foldl (stp M) (a, 0)
end WB
namespace WB
open PySem PySem.Spec PyProof.Rows L2
end WB
namespace WB
open PySem PySem.Spec PyProof.Rows L2
def Tups (K : PySem.W.Frag) (H : Hp) (xs : List V) (ls : List (List V)) : Prop := xs.length = ls.length ∧ ∀ (i : Nat) x l, xs[i]? = some x → ls[i]? = some l → ∃ p, x = .ref p ∧ SqT K H p l
section
variable {K : PySem.W.Frag} {H H' : Hp} {Q : VK} {E : XK} {t a x : Addr} {M : LM} {xs : List V} {ls : List (List V)}
theorem Tups.ex0 (e : Ex [] H H') (h : Tups K H xs ls) : Tups K H' xs ls := ⟨h.1, fun i x l h1 h2 => by
  obtain ⟨p, h3, h4⟩ := h.2 i x l h1 h2
  exact ⟨p, h3, e.sqT (by simp) h4⟩⟩
theorem Tups.nil : Tups K H [] [] := ⟨rfl, by simp⟩
def rwsOf (M : LM) : List Rw := M.st.flatMap fun a => M.ab.map fun c => ⟨a, c, (M.tb a c).1, (M.tb a c).2⟩
def tnsOf (M : LM) : List Tn := M.st.map fun a => ⟨a, (M.en a).1, (M.en a).2⟩
def LRowAt (K : PySem.W.Frag) (H : Hp) (p : Addr) (M : LM) : Prop := ∃ o r t y, SqT K H p [vS M.ab, .ref o, .ref r, .ref t, .ref y] ∧ SqT K H o (M.st.map vS) ∧ TupsAt K H r ((rwsOf M).map rwV) ∧ TupsAt K H t ((tnsOf M).map tnV) ∧ SqT K H y (M.ok.map vS)
theorem LRowAt.ex0 {p : Addr} (e : Ex [] H H') (h : LRowAt K H p M) : LRowAt K H' p M := by
  obtain ⟨o, r, t, y, h1, h2, h3, h4, h5⟩ := h
  exact ⟨o, r, t, y, e.sqT (by simp) h1, e.sqT (by simp) h2, h3.ex0 e, h4.ex0 e, e.sqT (by simp) h5⟩
end
end WB
namespace WB
open PySem PySem.Spec PyProof.Rows L2
end WB
namespace WB
open PySem PySem.Spec PyProof.Rows L2
theorem lit_z : ("z" : Str) = S [122] := by decide +kernel
def MAt (K : PySem.W.Frag) (H : Hp) (q : Addr) (M : LM) : Prop := ∃ po ss es oo kt ke, H q = some (.lst [vS M.ab, .ref po, .ref ss, .ref es, .ref oo]) ∧ H po = some (.lst (M.st.map vS)) ∧ H ss = some (.dT kt) ∧ TabOk K H kt M ∧ H es = some (.dK ke) ∧ EndOk K H ke M ∧ H oo = some (.lst (M.ok.map vS))
section
variable {K : PySem.W.Frag} {H H' : Hp} {Q : VK} {E : XK} {a q x : Addr} {M : LM}
theorem MAt.ex0 (e : Ex [] H H') (h : MAt K H q M) : MAt K H' q M := by
  obtain ⟨po, ss, es, oo, kt, ke, h1, h2, h3, h4, h5, h6, h7⟩ := h
  exact ⟨po, ss, es, oo, kt, ke, e.get0 h1, e.get0 h2, e.get0 h3, h4.ex0 e, e.get0 h5, h6.ex0 e, e.get0 h7⟩
end
end WB
namespace WB
open PySem PySem.Spec PyProof.Rows L2
theorem lit_122 : ("z" : Str) = S [122] := by decide +kernel
end WB
namespace WB
open PySem PySem.Spec PyProof.Rows L2
section
variable {K : PySem.W.Frag} {vs : List V} {H H' : Hp} {Q : VK} {E : XK} {x q : Addr} {M : LM}
def TE1 (K : PySem.W.Frag) (H : Hp) (st : List (List Nat)) (kt : List (List Key × V)) (b : List Nat) (c : Nat) : Prop := ∃ (z : List Nat × Int) (p : Addr), valV kt [kS b, kS [c]] = some (.ref p) ∧ SqT K H p [vS z.1, .int z.2] ∧ z.1 ∈ st ∧ z.2.natAbs ≤ 2 ^ 200
def EE1 (K : PySem.W.Frag) (H : Hp) (st : List (List Nat)) (ke : List (Key × V)) (b : List Nat) : Prop := ∃ (z : List Nat × Int) (p : Addr), valV ke (kS b) = some (.ref p) ∧ SqT K H p [vS z.1, .int z.2] ∧ z.1 ∈ st ∧ z.2.natAbs ≤ 2 ^ 200
structure MSt (K : PySem.W.Frag) (H0 : Hp) (a po ss es : Addr) (st : List (List Nat)) (D : List Nat → Nat → Prop) (D2 : List Nat → Prop) (n : Nat) (H : Hp) : Prop where
  ex : Ex [a] H0 H
  pool : PoolAt H a
  po : H po = some (.lst (st.map vS))
  tb : ∃ kt, H ss = some (.dT kt) ∧ kt.length ≤ n ∧ ∀ b c, D b c → TE1 K H st kt b c
  en : ∃ ke, H es = some (.dK ke) ∧ ke.length ≤ n ∧ ∀ b, D2 b → EE1 K H st ke b
section
variable {H0 : Hp} {a po ss es : Addr} {st : List (List Nat)} {D : List Nat → Nat → Prop} {D2 : List Nat → Prop} {n : Nat}
theorem MSt.ex0 (e : Ex [] H H') (m : MSt K H0 a po ss es st D D2 n H) : MSt K H0 a po ss es st D D2 n H' := by
  obtain ⟨h1, h2, h3, ⟨kt, h4, h5, h6⟩, ⟨ke, h7, h8, h9⟩⟩ := m
  refine ⟨h1.trans e.wide, h2.ex e (by simp), e.get0 h3, ⟨kt, e.get0 h4, h5, fun b c d => ?_⟩, ⟨ke, e.get0 h7, h8, fun b d => ?_⟩⟩
  · obtain ⟨z, p, z1, z2, z3⟩ := h6 b c d
    exact ⟨z, p, z1, e.sqT (by simp) z2, z3⟩
  · obtain ⟨z, p, z1, z2, z3⟩ := h9 b d
    exact ⟨z, p, z1, e.sqT (by simp) z2, z3⟩
end
end
end WB
namespace WB
open PySem PySem.Spec PyProof.Rows L2
end WB
namespace WB
open PySem PySem.Spec PyProof.Rows L2
section
variable {K : PySem.W.Frag} {H H' : Hp} {Q : VK} {E : XK} {a p q x : Addr} {M : LM} {σ : St}
theorem Dd.shape : ∀ (n : Nat) (v : V) (d : PyData), Dd K H n v d → PyData.canLay0 d = true ∧ PyData.depth d ≤ n
  | 0, v, d, h => by
    obtain ⟨h1, h2⟩ := scal_shape h
    exact ⟨h1, by omega⟩
  | n + 1, v, d, h => by
    have parts : ∀ (xs : List V) (ds : List PyData), ds.length = xs.length → (∀ (i : Nat) x e, xs[i]? = some x → ds[i]? = some e → Dd K H n x e) → ∀ e ∈ ds, PyData.canLay0 e = true ∧ PyData.depth e ≤ n := fun xs ds hl h e he => by
      obtain ⟨i, hi⟩ := mem_get he
      have hlt : i < xs.length := by
        have := (List.getElem?_eq_some_iff.mp hi).1
        omega
      exact Dd.shape n xs[i] e (h i xs[i] e (List.getElem?_eq_getElem hlt) hi)
    rcases h with h | ⟨a, xs, ds, rfl, rfl, h1, hn, hl, h2⟩ | ⟨a, xs, ds, rfl, rfl, h1, hn, hl, h2⟩
    · obtain ⟨h1, h2⟩ := scal_shape h
      exact ⟨h1, by omega⟩
    · have pp := parts xs ds hl h2
      refine ⟨by rw [PyData.canLay0]; exact lay_all fun e he => (pp e he).1, ?_⟩
      rw [PyData.depth]
      have := dep_all (m := n) fun e he => (pp e he).2
      omega
    · have pp := parts xs ds hl h2
      refine ⟨by rw [PyData.canLay0]; exact lay_all fun e he => (pp e he).1, ?_⟩
      rw [PyData.depth]
      have := dep_all (m := n) fun e he => (pp e he).2
      omega
theorem Dd.shaped {n : Nat} {v : V} {d : PyData} (hn : n ≤ 20) (h : Dd K H n v d) : SeqAt.shaped d = true := by
  obtain ⟨h1, h2⟩ := Dd.shape n v d h
  unfold SeqAt.shaped
  exact Bool.and_eq_true_iff.mpr ⟨h1, decide_eq_true (by omega)⟩
theorem Fr.ex0 {F : Addr → Prop} {n : Nat} {v : V} {d : PyData} (e : Ex [] H H') (h : Fr F H n v d) : Fr F H' n v d := Fr.mono (fun _ h => h) (fun _ _ _ h => e.get0 h) _ _ _ h
theorem TupsAt.take {ls : List (List V)} {i : Nat} {xs : List V} (h2 : Tups K H xs ls) (h : SqT K H q (xs.take i)) : TupsAt K H q (ls.take i) := by
  refine ⟨_, h, by simp [h2.1], fun j y l h3 h4 => ?_⟩
  by_cases hj : j < i
  · rw [List.getElem?_take_of_lt hj] at h3 h4
    exact h2.2 j y l h3 h4
  · rw [List.getElem?_take_eq_none (by omega)] at h3
    cases h3
end
end WB
namespace WB
open PySem PySem.Spec PyProof.Rows L2 LamX
inductive F2 {α β : Type} (P : α → β → Prop) : List α → List β → Prop
  | nil : F2 P [] []
  | cons {x : α} {y : β} {xs : List α} {ys : List β} (h : P x y) (r : F2 P xs ys) : F2 P (x :: xs) (y :: ys)
def ExN (m : List Addr) (H H' : Hp) : Prop := ∀ b o, b ∉ m → H b = some o → (∀ ps, o ≠ .tbl ps) → H' b = some o
section
variable {K : PySem.W.Frag} {H H' H1 H2 : Hp} {Q : VK} {E : XK} {a q x : Addr} {m : List Addr} {M : LM} {T : List (Addr × Str)}
theorem ExN.trans (e : ExN m H H1) (e2 : ExN m H1 H2) : ExN m H H2 := fun b o n h z => e2 b o n (e b o n h z) z
theorem ExN.of (e : Ex m H H') : ExN m H H' := fun b o n h _ => e b o n h
theorem ExN.of0 (e : Ex [] H H') : ExN m H H' := fun b o _ h _ => e b o (by simp) h
theorem Tabs.ex0 (e : Ex [] H H') (h : Tabs T H) : Tabs T H' := h.ext fun b o hb => e b o (by simp) hb
structure ValD (K : PySem.W.Frag) (m : List Addr) (H : Hp) (v : V) (d : PyData) : Prop where
  dx : ∀ H', ExN m H H' → Dx K H' 5 v d
  str : (∃ l, v = vS l ∧ l.length ≤ 10000 ∧ plain l) ∨ ∃ n, n ≠ "str" ∧ ∀ H', ExN m H H' → Kd K H' v n
  int : (∃ i : Int, v = .int i ∧ i.natAbs ≤ 10 ^ 38) ∨ ∃ n, n ≠ "int" ∧ ∀ H', ExN m H H' → Kd K H' v n
theorem ValD.ex {v : V} {d : PyData} (e : ExN m H H') (h : ValD K m H v d) : ValD K m H' v d :=
  ⟨fun H2 e2 => h.dx H2 (e.trans e2), h.str.imp (fun z => z) fun ⟨n, h1, h2⟩ => ⟨n, h1, fun H2 e2 => h2 H2 (e.trans e2)⟩, h.int.imp (fun z => z) fun ⟨n, h1, h2⟩ => ⟨n, h1, fun H2 e2 => h2 H2 (e.trans e2)⟩⟩
theorem ValD.int_ (i : Int) (h : i.natAbs ≤ 10 ^ 38) : ValD K m H (.int i) (.int i) :=
  ⟨fun _ _ => .inl (.inr (.inr (.inl ⟨i, rfl, rfl⟩))), .inr ⟨"int", by decide, fun _ _ => .int⟩, .inl ⟨i, rfl, h⟩⟩
theorem ValD.str_ (l : List Nat) (hl : l.length ≤ 10000) (h : plain l) : ValD K m H (vS l) (dS l) :=
  ⟨fun _ _ => .inl (.inr (.inr (.inr ⟨l, h, rfl, rfl⟩))), .inl ⟨l, rfl, hl, h⟩, .inr ⟨"str", by decide, fun _ _ => .str⟩⟩
theorem ValD.of {v : V} {d : PyData} {n : String} (h1 : n ≠ "str") (h2 : n ≠ "int") (h : ∀ H', ExN m H H' → Dx K H' 5 v d ∧ Kd K H' v n) : ValD K m H v d :=
  ⟨fun H' e => (h H' e).1, .inr ⟨n, h1, fun H' e => (h H' e).2⟩, .inr ⟨n, h2, fun H' e => (h H' e).2⟩⟩
theorem dd_pair {n : Nat} {xs : List V} {ds : List PyData} (P : V → PyData → Prop) (h : F2 P xs ds) : ds.length = xs.length ∧ ∀ (i : Nat) x e, xs[i]? = some x → ds[i]? = some e → P x e := by
  induction h with
  | nil => exact ⟨rfl, fun i x e h => by cases i <;> cases h⟩
  | cons h1 h2 ih =>
    refine ⟨by simp [ih.1], fun i x e hx he => ?_⟩
    cases i with
    | zero => cases hx; cases he; exact h1
    | succ i => exact ih.2 i x e hx he
theorem dx_scal {n : Nat} {v : V} {d : PyData} (h : Scal v d) : Dx K H n v d := by
  cases n with
  | zero => exact h
  | succ n => exact .inl h
theorem dd_scl {n : Nat} {v : V} {d : PyData} (h : Scal v d) : Dd K H n v d := by
  cases n with
  | zero => exact h
  | succ n => exact .inl h
theorem dx_tup {n : Nat} {xs : List V} {ds : List PyData} (h : SqT K H a xs) (hl : xs.length ≤ 1000) (hd : F2 (Dx K H n) xs ds) : Dx K H (n + 1) (.ref a) (.tuple ds) := by
  obtain ⟨h1, h2⟩ := dd_pair (n := n) _ hd
  exact .inr (.inl ⟨a, xs, ds, rfl, rfl, h, hl, h1, h2⟩)
theorem dx_lst {n : Nat} {xs : List V} {ds : List PyData} (h : H a = some (.lst xs)) (hl : xs.length ≤ 1000) (hd : F2 (Dx K H n) xs ds) : Dx K H (n + 1) (.ref a) (.list ds) := by
  obtain ⟨h1, h2⟩ := dd_pair (n := n) _ hd
  exact .inr (.inr (.inl ⟨a, xs, ds, rfl, rfl, h, hl, h1, h2⟩))
theorem scS {l : List Nat} (h : plain l) : Scal (vS l) (dS l) := .inr (.inr (.inr ⟨l, h, rfl, rfl⟩))
theorem scI {i : Int} : Scal (.int i) (.int i) := .inr (.inr (.inl ⟨i, rfl, rfl⟩))
theorem OddAt.val {v : V} (h : OddAt m H v) : ∃ d, ValD K m H v d := by
  cases h with
  | non => exact ⟨.none, .of (n := "NoneType") (by decide) (by decide) fun _ _ => ⟨dx_scal (.inl ⟨rfl, rfl⟩), .non⟩⟩
  | bl b => exact ⟨.bool b, .of (n := "bool") (by decide) (by decide) fun _ _ => ⟨dx_scal (.inr (.inl ⟨b, rfl, rfl⟩)), .bl⟩⟩
  | int i h => exact ⟨_, .int_ i h⟩
  | str l h => exact ⟨_, .str_ l (by have := oddS_len h; omega) (oddS_plain h)⟩
  | l0 n h => exact ⟨.list [], .of (n := "list") (by decide) (by decide) fun H' e => have h' := e _ _ n h (fun _ z => by cases z); ⟨dx_lst h' (by simp) .nil, .lst h'⟩⟩
  | l1 n h => exact ⟨.list [dS [97]], .of (n := "list") (by decide) (by decide) fun H' e => have h' := e _ _ n h (fun _ z => by cases z); ⟨dx_lst h' (by simp) (.cons (dx_scal (scS plain_a)) .nil), .lst h'⟩⟩
  | d0 n h => exact ⟨.dict [], .of (n := "dict") (by decide) (by decide) fun H' e => have h' := e _ _ n h (fun _ z => by cases z); ⟨.inr (.inr (.inr (.inl ⟨_, rfl, rfl, h'⟩))), .dict h'⟩⟩
  | d1 n h => exact ⟨.dict [(dS [97], .int 1)], .of (n := "dict") (by decide) (by decide) fun H' e => have h' := e _ _ n h (fun _ z => by cases z); ⟨.inr (.inr (.inr (.inr ⟨_, _, _, rfl, rfl, h', dd_scl scI⟩))), .dict h'⟩⟩
  | t0 n h => exact ⟨.tuple [], .of (n := "tuple") (by decide) (by decide) fun H' e => have h' := SqT.of (K := K) (e _ _ n h (fun _ z => by cases z)); ⟨dx_tup h' (by simp) .nil, .tup h'⟩⟩
  | t1 n h => exact ⟨.tuple [dS [97]], .of (n := "tuple") (by decide) (by decide) fun H' e => have h' := SqT.of (K := K) (e _ _ n h (fun _ z => by cases z)); ⟨dx_tup h' (by simp) (.cons (dx_scal (scS plain_a)) .nil), .tup h'⟩⟩
  | t2 n h => exact ⟨.tuple [.int 0, .int 1], .of (n := "tuple") (by decide) (by decide) fun H' e => have h' := SqT.of (K := K) (e _ _ n h (fun _ z => by cases z)); ⟨dx_tup h' (by simp) (.cons (dx_scal scI) (.cons (dx_scal scI) .nil)), .tup h'⟩⟩
  | @t3 a b c d e n nb nc nd ne h hb hc hd he =>
    refine ⟨.tuple [.list [], .dict [(dS [97], .tuple [.int 1, .list []])]], .of (n := "tuple") (by decide) (by decide) fun H' ex => ?_⟩
    have h' := SqT.of (K := K) (ex _ _ n h (fun _ z => by cases z))
    have hb' := ex _ _ nb hb (fun _ z => by cases z)
    have hc' := ex _ _ nc hc (fun _ z => by cases z)
    have hd' := ex _ _ nd hd (fun _ z => by cases z)
    have he' := ex _ _ ne he (fun _ z => by cases z)
    refine ⟨dx_tup h' (by simp) (.cons (dx_lst (n := 3) hb' (by simp) .nil) (.cons (.inr (.inr (.inr (.inr ⟨c, _, _, rfl, rfl, hc', ?_⟩)))) .nil)), .tup h'⟩
    refine .inr (.inl ⟨d, _, _, rfl, rfl, SqT.of hd', by simp, rfl, fun i x y hx hy => ?_⟩)
    match i, hx, hy with
    | 0, hx, hy => cases hx; cases hy; exact dd_scl scI
    | 1, hx, hy => cases hx; cases hy; exact .inr (.inr ⟨e, [], [], rfl, rfl, he', by simp, rfl, fun i x y hx => by cases i <;> cases hx⟩)
end
end WB
namespace WB
open PySem PySem.Spec PyProof.Rows L2
structure Vx01 (K : PySem.W.Frag) : Prop where
  x0 : ExcK K (He.ga K "InvalidWord") (He.ma K (He.ga K "InvalidWord") "__init__") "given"
  x1 : ExcK K (He.ga K "InvalidSigns") (He.ma K (He.ga K "InvalidSigns") "__init__") "given"
  x2 : ExcK K (He.ga K "InvalidNumber") (He.ma K (He.ga K "InvalidNumber") "__init__") "given"
  x3 : ExcK K (He.ga K "InvalidRound") (He.ma K (He.ga K "InvalidRound") "__init__") "given"
  x4 : ExcK K (He.ga K "InvalidPlace") (He.ma K (He.ga K "InvalidPlace") "__init__") "given"
  x5 : ExcK K (He.ga K "InvalidRow") (He.ma K (He.ga K "InvalidRow") "__init__") "given"
  x6 : ExcK K (He.ga K "InvalidWish") (He.ma K (He.ga K "InvalidWish") "__init__") "given"
  x7 : ExcK K (He.ga K "InvalidIndex") (He.ma K (He.ga K "InvalidIndex") "__init__") "given"
  x8 : ExcK K (He.ga K "InvalidName") (He.ma K (He.ga K "InvalidName") "__init__") "given"
  x9 : ExcK K (He.ga K "NotARing") (He.ma K (He.ga K "NotARing") "__init__") "given"
  x10 : ExcK K (He.ga K "NotAKind") (He.ma K (He.ga K "NotAKind") "__init__") "given"
  x11 : ExcK K (He.ga K "NotALoop") (He.ma K (He.ga K "NotALoop") "__init__") "given"
  x12 : ExcK K (He.ga K "OtherSigns") (He.ma K (He.ga K "OtherSigns") "__init__") "given"
  x13 : ExcK K (He.ga K "InvalidPairs") (He.ma K (He.ga K "InvalidPairs") "__init__") "index"
  x14 : ExcK K (He.ga K "InvalidStates") (He.ma K (He.ga K "InvalidStates") "__init__") "index"
  x15 : ExcK K (He.ga K "InvalidRows") (He.ma K (He.ga K "InvalidRows") "__init__") "index"
  x16 : ExcK K (He.ga K "InvalidTurns") (He.ma K (He.ga K "InvalidTurns") "__init__") "index"
  x17 : ExcK K (He.ga K "InvalidChanges") (He.ma K (He.ga K "InvalidChanges") "__init__") "index"
  x18 : ExcG K (He.ga K "UnknownName") (He.ma K (He.ga K "UnknownName") "__init__") "given"
  x19 : ExcG K (He.ga K "InUse") (He.ma K (He.ga K "InUse") "__init__") "index"
  x20 : ExcG K (He.ga K "TooMany") (He.ma K (He.ga K "TooMany") "__init__") "limit"
  x21 : ExcN K (He.ga K "NoRing") (He.ma K (He.ga K "NoRing") "__init__")
  x22 : ExcN K (He.ga K "NothingToUndo") (He.ma K (He.ga K "NothingToUndo") "__init__")
  x23 : ExcG K (He.ga K "Broken") (He.ma K (He.ga K "Broken") "__init__") "index"
def sp_law_sorts (K : PySem.W.Frag) : Sp := fun vs H Q _ => ∃ a : Addr, vs = [.ref a] ∧ ∃ (i : Nat) (fs : List (Str × V)), i < 24 ∧ ExcAt H a (cl01 K i) fs ∧ ∀ p H', H p = none → Ex [] H H' → H' p = some (.lst ((List.range 24).map fun j => V.bl (decide (j = i)))) → Q (.ref p) H'
def Exs01 (K : PySem.W.Frag) (H : Hp) (p : Addr) (v : V) : Prop := ∃ us : List V, H p = some (.lst us) ∧ us.length = 24 ∧ ∀ i u, us[i]? = some u → ∃ a, u = .ref a ∧ ExcAt H a (cl01 K i) (fs01 i v)
theorem Exs01.ex {K : PySem.W.Frag} {H H' : Hp} {p : Addr} {v : V} (k : ∀ b o, H b = some o → H' b = some o) (h : Exs01 K H p v) : Exs01 K H' p v := by
  obtain ⟨us, h1, h2, h3⟩ := h
  exact ⟨us, k _ _ h1, h2, fun i u hu => by obtain ⟨a, e, x⟩ := h3 i u hu; exact ⟨a, e, x.ex k⟩⟩
def sp_law_by_place (K : PySem.W.Frag) : Sp := fun vs H Q _ => ∃ v : V, vs = [v] ∧ ∀ p H', Ex [] H H' → Exs01 K H' p v → Q (.ref p) H'
def sp_law_by_name (K : PySem.W.Frag) : Sp := fun vs H Q _ => ∃ v : V, vs = [v] ∧ ∀ p H', Ex [] H H' → Exs01 K H' p v → Q (.ref p) H'
def sp_law_kept (K : PySem.W.Frag) : Sp := fun vs H Q _ => ∃ (a : Addr) (i : Nat), vs = [.ref a, .int (i : Nat)] ∧ ∃ v, i < 24 ∧ ExcAt H a (cl01 K i) (fs01 i v) ∧ ∀ p H', H p = none → Ex [] H H' → H' p = some (.lst (if i = 21 ∨ i = 22 then [] else [v])) → Q (.ref p) H'
def sp_law_error_right (K : PySem.W.Frag) : Sp := fun vs H Q _ => ∃ (a : Addr) (i : Nat) (v : V), vs = [.ref a, .int (i : Nat), v] ∧ i < 24 ∧ ExcAt H a (cl01 K i) (fs01 i v) ∧ (∃ d, Dx K H 5 v d) ∧ ∀ H', Ex [] H H' → Q (.bl true) H'
def sp_law_wholeK (K : PySem.W.Frag) : Sp := fun vs H Q _ => ∃ i : Int, vs = [.int i] ∧ Q (.bl true) H
def sp_law_right01 (K : PySem.W.Frag) : Sp := fun vs H Q _ => ∃ a : Addr, vs = [.ref a] ∧ PoolAt H a ∧ ∀ H', Ex [a] H H' → Q (.bl true) H'
def co01 : List Int := [4, 6, 600, 600, 99, 30, 9, 6, 9, 9]
def sp_law_constants (K : PySem.W.Frag) : Sp := fun vs H Q _ => vs = [] ∧ ∀ p H', H p = none → Ex [] H H' → H' p = some (.lst (co01.map V.int)) → Q (.ref p) H'
section
variable {K : PySem.W.Frag} {H : Hp} {Q : VK} {E : XK} {a p : Addr} {v : V} {i : Nat} {fs : List (Str × V)}
theorem u_sorts (hi : i < 24) (h : ExcAt H a (cl01 K i) fs) (k : ∀ p H', H p = none → Ex [] H H' → H' p = some (.lst ((List.range 24).map fun j => V.bl (decide (j = i)))) → Q (.ref p) H') : sp_law_sorts K ([.ref a] ++ []) H Q E := ⟨a, rfl, i, fs, hi, h, k⟩
theorem u_place (k : ∀ p H', Ex [] H H' → Exs01 K H' p v → Q (.ref p) H') : sp_law_by_place K ([v] ++ []) H Q E := ⟨v, rfl, k⟩
theorem u_byname (k : ∀ p H', Ex [] H H' → Exs01 K H' p v → Q (.ref p) H') : sp_law_by_name K ([v] ++ []) H Q E := ⟨v, rfl, k⟩
theorem u_kept (hi : i < 24) (h : ExcAt H a (cl01 K i) (fs01 i v)) (k : ∀ p H', H p = none → Ex [] H H' → H' p = some (.lst (if i = 21 ∨ i = 22 then [] else [v])) → Q (.ref p) H') : sp_law_kept K ([.ref a, .int (i : Nat)] ++ []) H Q E := ⟨a, i, rfl, v, hi, h, k⟩
theorem u_err (hi : i < 24) (h : ExcAt H a (cl01 K i) (fs01 i v)) (hd : ∃ d, Dx K H 5 v d) (k : ∀ H', Ex [] H H' → Q (.bl true) H') : sp_law_error_right K ([.ref a, .int (i : Nat), v] ++ []) H Q E := ⟨a, i, v, rfl, hi, h, hd, k⟩
theorem u_right01 (hp : PoolAt H a) (k : ∀ H', Ex [a] H H' → Q (.bl true) H') : sp_law_right01 K ([.ref a] ++ []) H Q E := ⟨a, rfl, hp, k⟩
theorem u_consts (k : ∀ p H', H p = none → Ex [] H H' → H' p = some (.lst (co01.map V.int)) → Q (.ref p) H') : sp_law_constants K ([] ++ []) H Q E := ⟨rfl, k⟩
theorem u_whole01 {i : Int} (k : Q (.bl true) H) : sp_law_wholeK K ([.int i] ++ []) H Q E := ⟨i, rfl, k⟩
theorem s_isV {c : V} {cv : Value} {b : Bool} (hE : ExcAt H a (cl01 K i) fs) (T : Vs01 K) (hi : i < 24) (hc : ∀ u, RelV c u → u = cv) (hk : PySem.W.kitOne K (.ref (cl01 K i)) cv = some b) (k : Q (.bl b) H) : rIsV K [.ref a, c] H Q := ⟨a, _, fs, c, cv, b, rfl, hE, T.ec i hi, hc, hk, k⟩
theorem s_isO {j : Nat} {c : Addr} (hE : ExcAt H a (cl01 K i) fs) (T : Vs01 K) (hi : i < 24) (hj : j < 24) (e : c = cl01 K j) (k : Q (.bl (decide (j = i))) H) : rIsV K [.ref a, .ref c] H Q := s_isV hE T hi (cv := .ref c) (fun u h => h) (by rw [e]; exact T.k1 i j hi hj) k
theorem s_isB {j : Nat} {c : Addr} (hE : ExcAt H a (cl01 K i) fs) (T : Vs01 K) (hi : i < 24) (hj : j < 3) (e : c = He.ga K (bs01.getD j "")) (k : Q (.bl (decide (j = gr01 i))) H) : rIsV K [.ref a, .ref c] H Q := s_isV hE T hi (cv := .ref c) (fun u h => h) (by rw [e]; exact T.k2 i j hi hj) k
theorem s_isW {j : Nat} {c : String} (hE : ExcAt H a (cl01 K i) fs) (T : Vs01 K) (hi : i < 24) (hj : j < 3) (e : c = ow01.getD j "") (k : Q (.bl (decide (j = gr01 i))) H) : rIsV K [.ref a, .ty c] H Q := s_isV hE T hi (cv := .type c) (fun u h => h) (by rw [e]; exact T.k3 i j hi hj) k
theorem mk_k {C fI : Addr} {f : Str} {σ : L2.St} (T : ExcK K C fI f) (h0 : σ[0]? = some (some v)) (k : ∀ a H', Ex [] H H' → ExcAt H' a C [(f, v)] → Q (.ref a) H') : tMkV C (sp_exc K C f) (tCons (tVar 0) tNil) σ H Q := by
  refine s_cons (s_var h0 (s_nil ⟨by simp, fun a hn => ⟨a, v, rfl, T.ox, T.no, upd_same, fun dx h2 h3 => ⟨rfl, ?_⟩⟩⟩))
  have hdx : H dx = none := by
    rw [upd_ne h3] at h2
    exact h2
  refine k a _ (fun b o _ hb => ?_) (.inr ⟨dx, upd_same, by rw [upd_ne h3, upd_same]⟩)
  rw [upd_ne (ne_of_none hb hn), upd_ne (ne_of_none hb hdx), upd_ne (ne_of_none hb hn)]
  exact hb
theorem mk_g {C fI : Addr} {f : Str} {σ : L2.St} (T : ExcG K C fI f) (h0 : σ[0]? = some (some v)) (k : ∀ a H', Ex [] H H' → ExcAt H' a C [(f, v)] → Q (.ref a) H') : tMkV C (sp_excG K C f) (tCons (tVar 0) tNil) σ H Q := by
  refine s_cons (s_var h0 (s_nil ⟨by simp, fun a hn => ⟨a, v, rfl, T.ox, T.no, upd_same, fun dx h2 h3 => ⟨rfl, ?_⟩⟩⟩))
  have hdx : H dx = none := by
    rw [upd_ne h3] at h2
    exact h2
  refine k a _ (fun b o _ hb => ?_) (.inr ⟨dx, upd_same, by rw [upd_ne h3, upd_same]⟩)
  rw [upd_ne (ne_of_none hb hn), upd_ne (ne_of_none hb hdx), upd_ne (ne_of_none hb hn)]
  exact hb
theorem mk_n {C : Addr} {σ : L2.St} (k : ∀ a H', Ex [] H H' → ExcAt H' a C [] → Q (.ref a) H') : tMkV C sp_excN tNil σ H Q :=
  s_nil ⟨by simp, fun a hn => ⟨a, rfl, rfl, k a _ (fun b o _ hb => by rw [upd_ne (ne_of_none hb hn)]; exact hb) (.inl ⟨rfl, upd_same⟩)⟩⟩
theorem mk_kk {C fI : Addr} {f : Str} {σ : L2.St} (T : ExcK K C fI f) (h0 : σ[0]? = some (some v)) (k : ∀ a H', Ex [] H H' → ExcAt H' a C [(f, v)] → Q (.ref a) H') : tMkVK C 1 (sp_exc K C f) (fun vs zs => selG [(0, 0), (2, 0)] vs [] [] zs) (tCons (tVar 0) tNil) σ H Q := by
  refine s_cons (s_var h0 (s_nil ⟨rfl, fun a hn => ⟨a, v, rfl, T.ox, T.no, upd_same, fun dx h2 h3 => ⟨rfl, ?_⟩⟩⟩))
  have hdx : H dx = none := by
    rw [upd_ne h3] at h2
    exact h2
  refine k a _ (fun b o _ hb => ?_) (.inr ⟨dx, upd_same, by rw [upd_ne h3, upd_same]⟩)
  rw [upd_ne (ne_of_none hb hn), upd_ne (ne_of_none hb hdx), upd_ne (ne_of_none hb hn)]
  exact hb
theorem mk_gk {C fI : Addr} {f : Str} {σ : L2.St} (T : ExcG K C fI f) (h0 : σ[0]? = some (some v)) (k : ∀ a H', Ex [] H H' → ExcAt H' a C [(f, v)] → Q (.ref a) H') : tMkVK C 1 (sp_excG K C f) (fun vs zs => selG [(0, 0), (2, 0)] vs [] [] zs) (tCons (tVar 0) tNil) σ H Q := by
  refine s_cons (s_var h0 (s_nil ⟨rfl, fun a hn => ⟨a, v, rfl, T.ox, T.no, upd_same, fun dx h2 h3 => ⟨rfl, ?_⟩⟩⟩))
  have hdx : H dx = none := by
    rw [upd_ne h3] at h2
    exact h2
  refine k a _ (fun b o _ hb => ?_) (.inr ⟨dx, upd_same, by rw [upd_ne h3, upd_same]⟩)
  rw [upd_ne (ne_of_none hb hn), upd_ne (ne_of_none hb hdx), upd_ne (ne_of_none hb hn)]
  exact hb
def ExsR (K : PySem.W.Frag) (H : Hp) (v : V) (i : Nat) (us : List V) : Prop := ∀ j u, us[j]? = some u → ∃ a, u = .ref a ∧ ExcAt H a (cl01 K (i + j)) (fs01 (i + j) v)
theorem ExsR.ex0 {H' : Hp} {us : List V} (e : Ex [] H H') (h : ExsR K H v i us) : ExsR K H' v i us := fun j u hu => by
  obtain ⟨a, e1, x⟩ := h j u hu
  exact ⟨a, e1, x.ex fun b o hb => e b o (by simp) hb⟩
theorem ExsR.app {us ws : List V} (h1 : ExsR K H v i us) (h2 : ExsR K H v (i + us.length) ws) : ExsR K H v i (us ++ ws) := fun j u hu => by
  by_cases hj : j < us.length
  · rw [List.getElem?_append_left hj] at hu
    exact h1 j u hu
  · rw [List.getElem?_append_right (by omega)] at hu
    obtain ⟨a, e1, x⟩ := h2 (j - us.length) u hu
    have e : i + us.length + (j - us.length) = i + j := by omega
    rw [e] at x
    exact ⟨a, e1, x⟩
def OneR (K : PySem.W.Frag) (v : V) (σ : L2.St) (i : Nat) (te : TE) : Prop := ∀ (H : Hp) (Q : VK), (∀ a H', Ex [] H H' → ExcAt H' a (cl01 K i) (fs01 i v) → Q (.ref a) H') → te σ H Q
def RowR (K : PySem.W.Frag) (v : V) (σ : L2.St) (i n : Nat) (ta : TA) : Prop := ∀ (H : Hp) (Q : List V → Hp → Prop), (∀ us H', Ex [] H H' → us.length = n → ExsR K H' v i us → Q us H') → ta σ H Q
theorem RowR.nil {σ : L2.St} : RowR K v σ i 0 tNil := fun H Q k => s_nil (k [] H Ex.rfl rfl fun j u h => by cases h)
theorem RowR.cons {σ : L2.St} {n : Nat} {te : TE} {ta : TA} (h : OneR K v σ i te) (r : RowR K v σ (i + 1) n ta) : RowR K v σ i (n + 1) (tCons te ta) := fun H Q k => by
  refine s_cons (h H _ fun a H1 e1 x1 => r H1 _ fun us H2 e2 l2 x2 => k _ H2 (e1.trans e2) (by simp [l2]) fun j u hu => ?_)
  cases j with
  | zero => cases hu; exact ⟨a, rfl, x1.ex fun b o hb => e2 b o (by simp) hb⟩
  | succ j =>
    obtain ⟨b, e, x⟩ := x2 j u hu
    have e3 : i + 1 + j = i + (j + 1) := by omega
    rw [e3] at x
    exact ⟨b, e, x⟩
def ListR (K : PySem.W.Frag) (v : V) (σ : L2.St) (i n : Nat) (te : TE) : Prop := ∀ (H : Hp) (Q : VK), (∀ p us H', Ex [] H H' → H' p = some (.lst us) → us.length = n → ExsR K H' v i us → Q (.ref p) H') → te σ H Q
theorem RowR.lst {σ : L2.St} {n : Nat} {ta : TA} (r : RowR K v σ i n ta) (hn : n ≤ 24) : ListR K v σ i n (tLst ta) := fun H Q k => s_lst (r H _ fun us H1 e1 l1 x1 => s_alloc (by rw [l1, sizeLine_eq]; omega) fun p H2 hp e2 q2 => k p us H2 (e1.trans e2) q2 l1 (x1.ex0 e2))
theorem cat_row {σ : L2.St} {p0 : Addr} {us0 : List V} {n0 n : Nat} {te : TE} (h1 : σ[1]? = some (some (.ref p0))) (hp : H p0 = some (.lst us0)) (l0 : us0.length = n0) (x0 : ExsR K H v 0 us0) (r : ListR K v σ n0 n te) (hn : n0 + n ≤ 24)
    (k : ∀ p us H', Ex [] H H' → H' p = some (.lst us) → us.length = n0 + n → ExsR K H' v 0 us → Q (.ref p) H') : tOp rCat (tVar 1) te σ H Q := by
  refine s_op (s_var h1 (r H _ fun p us H1 e1 q1 l1 x1 => s_cat (e1 _ _ (by simp) hp) q1 (by rw [l0, l1, sizeLine_eq]; omega) fun p2 H2 hp2 e2 q2 => k p2 _ H2 (e1.trans e2) q2 (by rw [List.length_append, l0, l1]) ?_))
  refine ExsR.app (x0.ex0 (e1.trans e2)) ?_
  rw [l0, Nat.zero_add]
  exact x1.ex0 e2
end
end WB
namespace WB
open PySem PySem.Spec PyProof.Rows L2
def t_law_by_place (K : PySem.W.Frag) : TS :=
  (tSeq (tAsg (tLst (tCons (tMkV (He.ga K "InvalidWord") (sp_exc K (He.ga K "InvalidWord") "given") (tCons (tVar 0) tNil)) (tCons (tMkV (He.ga K "InvalidSigns") (sp_exc K (He.ga K "InvalidSigns") "given") (tCons (tVar 0) tNil)) (tCons (tMkV (He.ga K "InvalidNumber") (sp_exc K (He.ga K "InvalidNumber") "given") (tCons (tVar 0) tNil)) (tCons (tMkV (He.ga K "InvalidRound") (sp_exc K (He.ga K "InvalidRound") "given") (tCons (tVar 0) tNil)) (tCons (tMkV (He.ga K "InvalidPlace") (sp_exc K (He.ga K "InvalidPlace") "given") (tCons (tVar 0) tNil)) tNil)))))) (gName 1))
  (tSeq (tAsg (tOp rCat (tVar 1) (tLst (tCons (tMkV (He.ga K "InvalidRow") (sp_exc K (He.ga K "InvalidRow") "given") (tCons (tVar 0) tNil)) (tCons (tMkV (He.ga K "InvalidWish") (sp_exc K (He.ga K "InvalidWish") "given") (tCons (tVar 0) tNil)) (tCons (tMkV (He.ga K "InvalidIndex") (sp_exc K (He.ga K "InvalidIndex") "given") (tCons (tVar 0) tNil)) (tCons (tMkV (He.ga K "InvalidName") (sp_exc K (He.ga K "InvalidName") "given") (tCons (tVar 0) tNil)) (tCons (tMkV (He.ga K "NotARing") (sp_exc K (He.ga K "NotARing") "given") (tCons (tVar 0) tNil)) tNil))))))) (gName 1))
  (tSeq (tAsg (tOp rCat (tVar 1) (tLst (tCons (tMkV (He.ga K "NotAKind") (sp_exc K (He.ga K "NotAKind") "given") (tCons (tVar 0) tNil)) (tCons (tMkV (He.ga K "NotALoop") (sp_exc K (He.ga K "NotALoop") "given") (tCons (tVar 0) tNil)) (tCons (tMkV (He.ga K "OtherSigns") (sp_exc K (He.ga K "OtherSigns") "given") (tCons (tVar 0) tNil)) (tCons (tMkV (He.ga K "InvalidPairs") (sp_exc K (He.ga K "InvalidPairs") "index") (tCons (tVar 0) tNil)) (tCons (tMkV (He.ga K "InvalidStates") (sp_exc K (He.ga K "InvalidStates") "index") (tCons (tVar 0) tNil)) tNil))))))) (gName 1))
  (tSeq (tAsg (tOp rCat (tVar 1) (tLst (tCons (tMkV (He.ga K "InvalidRows") (sp_exc K (He.ga K "InvalidRows") "index") (tCons (tVar 0) tNil)) (tCons (tMkV (He.ga K "InvalidTurns") (sp_exc K (He.ga K "InvalidTurns") "index") (tCons (tVar 0) tNil)) (tCons (tMkV (He.ga K "InvalidChanges") (sp_exc K (He.ga K "InvalidChanges") "index") (tCons (tVar 0) tNil)) (tCons (tMkV (He.ga K "UnknownName") (sp_excG K (He.ga K "UnknownName") "given") (tCons (tVar 0) tNil)) tNil)))))) (gName 1))
  (tRet (tOp rCat (tVar 1) (tLst (tCons (tMkV (He.ga K "InUse") (sp_excG K (He.ga K "InUse") "index") (tCons (tVar 0) tNil)) (tCons (tMkV (He.ga K "TooMany") (sp_excG K (He.ga K "TooMany") "limit") (tCons (tVar 0) tNil)) (tCons (tMkV (He.ga K "NoRing") sp_excN tNil) (tCons (tMkV (He.ga K "NothingToUndo") sp_excN tNil) (tCons (tMkV (He.ga K "Broken") (sp_excG K (He.ga K "Broken") "index") (tCons (tVar 0) tNil)) tNil))))))))))))
def t_law_by_name (K : PySem.W.Frag) : TS :=
  (tSeq (tAsg (tLst (tCons (tMkVK (He.ga K "InvalidWord") 1 (sp_exc K (He.ga K "InvalidWord") "given") (fun vs zs => selG [(0, 0), (2, 0)] vs [] [] zs) (tCons (tVar 0) tNil)) (tCons (tMkVK (He.ga K "InvalidSigns") 1 (sp_exc K (He.ga K "InvalidSigns") "given") (fun vs zs => selG [(0, 0), (2, 0)] vs [] [] zs) (tCons (tVar 0) tNil)) (tCons (tMkVK (He.ga K "InvalidNumber") 1 (sp_exc K (He.ga K "InvalidNumber") "given") (fun vs zs => selG [(0, 0), (2, 0)] vs [] [] zs) (tCons (tVar 0) tNil)) tNil)))) (gName 1))
  (tSeq (tAsg (tOp rCat (tVar 1) (tLst (tCons (tMkVK (He.ga K "InvalidRound") 1 (sp_exc K (He.ga K "InvalidRound") "given") (fun vs zs => selG [(0, 0), (2, 0)] vs [] [] zs) (tCons (tVar 0) tNil)) (tCons (tMkVK (He.ga K "InvalidPlace") 1 (sp_exc K (He.ga K "InvalidPlace") "given") (fun vs zs => selG [(0, 0), (2, 0)] vs [] [] zs) (tCons (tVar 0) tNil)) (tCons (tMkVK (He.ga K "InvalidRow") 1 (sp_exc K (He.ga K "InvalidRow") "given") (fun vs zs => selG [(0, 0), (2, 0)] vs [] [] zs) (tCons (tVar 0) tNil)) tNil))))) (gName 1))
  (tSeq (tAsg (tOp rCat (tVar 1) (tLst (tCons (tMkVK (He.ga K "InvalidWish") 1 (sp_exc K (He.ga K "InvalidWish") "given") (fun vs zs => selG [(0, 0), (2, 0)] vs [] [] zs) (tCons (tVar 0) tNil)) (tCons (tMkVK (He.ga K "InvalidIndex") 1 (sp_exc K (He.ga K "InvalidIndex") "given") (fun vs zs => selG [(0, 0), (2, 0)] vs [] [] zs) (tCons (tVar 0) tNil)) (tCons (tMkVK (He.ga K "InvalidName") 1 (sp_exc K (He.ga K "InvalidName") "given") (fun vs zs => selG [(0, 0), (2, 0)] vs [] [] zs) (tCons (tVar 0) tNil)) tNil))))) (gName 1))
  (tSeq (tAsg (tOp rCat (tVar 1) (tLst (tCons (tMkVK (He.ga K "NotARing") 1 (sp_exc K (He.ga K "NotARing") "given") (fun vs zs => selG [(0, 0), (2, 0)] vs [] [] zs) (tCons (tVar 0) tNil)) (tCons (tMkVK (He.ga K "NotAKind") 1 (sp_exc K (He.ga K "NotAKind") "given") (fun vs zs => selG [(0, 0), (2, 0)] vs [] [] zs) (tCons (tVar 0) tNil)) (tCons (tMkVK (He.ga K "NotALoop") 1 (sp_exc K (He.ga K "NotALoop") "given") (fun vs zs => selG [(0, 0), (2, 0)] vs [] [] zs) (tCons (tVar 0) tNil)) (tCons (tMkVK (He.ga K "OtherSigns") 1 (sp_exc K (He.ga K "OtherSigns") "given") (fun vs zs => selG [(0, 0), (2, 0)] vs [] [] zs) (tCons (tVar 0) tNil)) tNil)))))) (gName 1))
  (tSeq (tAsg (tOp rCat (tVar 1) (tLst (tCons (tMkVK (He.ga K "InvalidPairs") 1 (sp_exc K (He.ga K "InvalidPairs") "index") (fun vs zs => selG [(0, 0), (2, 0)] vs [] [] zs) (tCons (tVar 0) tNil)) (tCons (tMkVK (He.ga K "InvalidStates") 1 (sp_exc K (He.ga K "InvalidStates") "index") (fun vs zs => selG [(0, 0), (2, 0)] vs [] [] zs) (tCons (tVar 0) tNil)) (tCons (tMkVK (He.ga K "InvalidRows") 1 (sp_exc K (He.ga K "InvalidRows") "index") (fun vs zs => selG [(0, 0), (2, 0)] vs [] [] zs) (tCons (tVar 0) tNil)) tNil))))) (gName 1))
  (tSeq (tAsg (tOp rCat (tVar 1) (tLst (tCons (tMkVK (He.ga K "InvalidTurns") 1 (sp_exc K (He.ga K "InvalidTurns") "index") (fun vs zs => selG [(0, 0), (2, 0)] vs [] [] zs) (tCons (tVar 0) tNil)) (tCons (tMkVK (He.ga K "InvalidChanges") 1 (sp_exc K (He.ga K "InvalidChanges") "index") (fun vs zs => selG [(0, 0), (2, 0)] vs [] [] zs) (tCons (tVar 0) tNil)) (tCons (tMkVK (He.ga K "UnknownName") 1 (sp_excG K (He.ga K "UnknownName") "given") (fun vs zs => selG [(0, 0), (2, 0)] vs [] [] zs) (tCons (tVar 0) tNil)) tNil))))) (gName 1))
  (tRet (tOp rCat (tVar 1) (tLst (tCons (tMkVK (He.ga K "InUse") 1 (sp_excG K (He.ga K "InUse") "index") (fun vs zs => selG [(0, 0), (2, 0)] vs [] [] zs) (tCons (tVar 0) tNil)) (tCons (tMkVK (He.ga K "TooMany") 1 (sp_excG K (He.ga K "TooMany") "limit") (fun vs zs => selG [(0, 0), (2, 0)] vs [] [] zs) (tCons (tVar 0) tNil)) (tCons (tMkV (He.ga K "NoRing") sp_excN tNil) (tCons (tMkV (He.ga K "NothingToUndo") sp_excN tNil) (tCons (tMkVK (He.ga K "Broken") 1 (sp_excG K (He.ga K "Broken") "index") (fun vs zs => selG [(0, 0), (2, 0)] vs [] [] zs) (tCons (tVar 0) tNil)) tNil))))))))))))))
section
variable {K : PySem.W.Frag} {vs : List V} {H : Hp} {Q : VK} {E : XK}
theorem pure_law_by_place (T : Vx01 K) (h : sp_law_by_place K vs H Q E) : t_law_by_place K (E1 Q) (start ["_law_value", "_law_found"] vs) H := by
  obtain ⟨v, rfl, k⟩ := h
  show t_law_by_place K (E1 Q) [some v, none] H
  unfold t_law_by_place
  refine s_seq (s_asg ((RowR.lst (K := K) (v := v) (i := 0) (RowR.cons (fun _ _ kk => mk_k T.x0 rfl kk) (RowR.cons (fun _ _ kk => mk_k T.x1 rfl kk) (RowR.cons (fun _ _ kk => mk_k T.x2 rfl kk) (RowR.cons (fun _ _ kk => mk_k T.x3 rfl kk) (RowR.cons (fun _ _ kk => mk_k T.x4 rfl kk) RowR.nil))))) (by decide)) H _ fun p0 us0 H0 e0 q0 l0 x0 => s_gName ?_))
  refine s_seq (s_asg (cat_row (n := 5) rfl q0 l0 x0 (RowR.lst (K := K) (v := v) (i := 5) (RowR.cons (fun _ _ kk => mk_k T.x5 rfl kk) (RowR.cons (fun _ _ kk => mk_k T.x6 rfl kk) (RowR.cons (fun _ _ kk => mk_k T.x7 rfl kk) (RowR.cons (fun _ _ kk => mk_k T.x8 rfl kk) (RowR.cons (fun _ _ kk => mk_k T.x9 rfl kk) RowR.nil))))) (by decide)) (by decide) fun p1 us1 H1 e1 q1 l1 x1 => s_gName ?_))
  refine s_seq (s_asg (cat_row (n := 5) rfl q1 l1 x1 (RowR.lst (K := K) (v := v) (i := 10) (RowR.cons (fun _ _ kk => mk_k T.x10 rfl kk) (RowR.cons (fun _ _ kk => mk_k T.x11 rfl kk) (RowR.cons (fun _ _ kk => mk_k T.x12 rfl kk) (RowR.cons (fun _ _ kk => mk_k T.x13 rfl kk) (RowR.cons (fun _ _ kk => mk_k T.x14 rfl kk) RowR.nil))))) (by decide)) (by decide) fun p2 us2 H2 e2 q2 l2 x2 => s_gName ?_))
  refine s_seq (s_asg (cat_row (n := 4) rfl q2 l2 x2 (RowR.lst (K := K) (v := v) (i := 15) (RowR.cons (fun _ _ kk => mk_k T.x15 rfl kk) (RowR.cons (fun _ _ kk => mk_k T.x16 rfl kk) (RowR.cons (fun _ _ kk => mk_k T.x17 rfl kk) (RowR.cons (fun _ _ kk => mk_g T.x18 rfl kk) RowR.nil)))) (by decide)) (by decide) fun p3 us3 H3 e3 q3 l3 x3 => s_gName ?_))
  exact s_ret (cat_row (n := 5) rfl q3 l3 x3 (RowR.lst (K := K) (v := v) (i := 19) (RowR.cons (fun _ _ kk => mk_g T.x19 rfl kk) (RowR.cons (fun _ _ kk => mk_g T.x20 rfl kk) (RowR.cons (fun _ _ kk => mk_n kk) (RowR.cons (fun _ _ kk => mk_n kk) (RowR.cons (fun _ _ kk => mk_g T.x23 rfl kk) RowR.nil))))) (by decide)) (by decide) fun p4 us4 H4 e4 q4 l4 x4 => k p4 H4 (e0.trans (e1.trans (e2.trans (e3.trans e4)))) ⟨us4, q4, l4, fun i u hu => by
    have z := x4 i u hu
    rw [Nat.zero_add] at z
    exact z⟩)
theorem pure_law_by_name (T : Vx01 K) (h : sp_law_by_name K vs H Q E) : t_law_by_name K (E1 Q) (start ["_law_value", "_law_found"] vs) H := by
  obtain ⟨v, rfl, k⟩ := h
  show t_law_by_name K (E1 Q) [some v, none] H
  unfold t_law_by_name
  refine s_seq (s_asg ((RowR.lst (K := K) (v := v) (i := 0) (RowR.cons (fun _ _ kk => mk_kk T.x0 rfl kk) (RowR.cons (fun _ _ kk => mk_kk T.x1 rfl kk) (RowR.cons (fun _ _ kk => mk_kk T.x2 rfl kk) RowR.nil))) (by decide)) H _ fun p0 us0 H0 e0 q0 l0 x0 => s_gName ?_))
  refine s_seq (s_asg (cat_row (n := 3) rfl q0 l0 x0 (RowR.lst (K := K) (v := v) (i := 3) (RowR.cons (fun _ _ kk => mk_kk T.x3 rfl kk) (RowR.cons (fun _ _ kk => mk_kk T.x4 rfl kk) (RowR.cons (fun _ _ kk => mk_kk T.x5 rfl kk) RowR.nil))) (by decide)) (by decide) fun p1 us1 H1 e1 q1 l1 x1 => s_gName ?_))
  refine s_seq (s_asg (cat_row (n := 3) rfl q1 l1 x1 (RowR.lst (K := K) (v := v) (i := 6) (RowR.cons (fun _ _ kk => mk_kk T.x6 rfl kk) (RowR.cons (fun _ _ kk => mk_kk T.x7 rfl kk) (RowR.cons (fun _ _ kk => mk_kk T.x8 rfl kk) RowR.nil))) (by decide)) (by decide) fun p2 us2 H2 e2 q2 l2 x2 => s_gName ?_))
  refine s_seq (s_asg (cat_row (n := 4) rfl q2 l2 x2 (RowR.lst (K := K) (v := v) (i := 9) (RowR.cons (fun _ _ kk => mk_kk T.x9 rfl kk) (RowR.cons (fun _ _ kk => mk_kk T.x10 rfl kk) (RowR.cons (fun _ _ kk => mk_kk T.x11 rfl kk) (RowR.cons (fun _ _ kk => mk_kk T.x12 rfl kk) RowR.nil)))) (by decide)) (by decide) fun p3 us3 H3 e3 q3 l3 x3 => s_gName ?_))
  refine s_seq (s_asg (cat_row (n := 3) rfl q3 l3 x3 (RowR.lst (K := K) (v := v) (i := 13) (RowR.cons (fun _ _ kk => mk_kk T.x13 rfl kk) (RowR.cons (fun _ _ kk => mk_kk T.x14 rfl kk) (RowR.cons (fun _ _ kk => mk_kk T.x15 rfl kk) RowR.nil))) (by decide)) (by decide) fun p4 us4 H4 e4 q4 l4 x4 => s_gName ?_))
  refine s_seq (s_asg (cat_row (n := 3) rfl q4 l4 x4 (RowR.lst (K := K) (v := v) (i := 16) (RowR.cons (fun _ _ kk => mk_kk T.x16 rfl kk) (RowR.cons (fun _ _ kk => mk_kk T.x17 rfl kk) (RowR.cons (fun _ _ kk => mk_gk T.x18 rfl kk) RowR.nil))) (by decide)) (by decide) fun p5 us5 H5 e5 q5 l5 x5 => s_gName ?_))
  exact s_ret (cat_row (n := 5) rfl q5 l5 x5 (RowR.lst (K := K) (v := v) (i := 19) (RowR.cons (fun _ _ kk => mk_gk T.x19 rfl kk) (RowR.cons (fun _ _ kk => mk_gk T.x20 rfl kk) (RowR.cons (fun _ _ kk => mk_n kk) (RowR.cons (fun _ _ kk => mk_n kk) (RowR.cons (fun _ _ kk => mk_gk T.x23 rfl kk) RowR.nil))))) (by decide)) (by decide) fun p6 us6 H6 e6 q6 l6 x6 => k p6 H6 (e0.trans (e1.trans (e2.trans (e3.trans (e4.trans (e5.trans e6)))))) ⟨us6, q6, l6, fun i u hu => by
    have z := x6 i u hu
    rw [Nat.zero_add] at z
    exact z⟩)
end
end WB
namespace WB
open PySem PySem.Spec PyProof.Rows L2
end WB
namespace WB
open PySem PySem.Spec PyProof.Rows L2
theorem lit_114_111_119 : ("row" : Str) = S [114, 111, 119] := by decide +kernel
theorem lit_116_117_114_110 : ("turn" : Str) = S [116, 117, 114, 110] := by decide +kernel
theorem lit_98_101_103_105_110 : ("begin" : Str) = S [98, 101, 103, 105, 110] := by decide +kernel
end WB
namespace WB
open PySem PySem.Spec PyProof.Rows L2
structure MD where
  n : Nat
  s : List Nat
  nm : List (List Nat)
  T : Nat → Nat → Nat × Int
  En : Nat → Nat × Int
  ys : List Nat
section
variable {K : PySem.W.Frag} {H H' : Hp} {Q : VK} {E : XK} {a q : Addr} {D : MD}
theorem inV_I {x : Int} {ls : List Int} : inV (.int x) (ls.map V.int) = decide (x ∈ ls) := by
  unfold inV
  rw [List.any_map, Bool.eq_iff_iff, List.any_eq_true, decide_eq_true_iff]
  constructor
  · rintro ⟨y, hy, e⟩
    have e : eqV (.int y) (.int x) = true := e
    have e : (y == x) = true := e
    rw [← eq_of_beq e]; exact hy
  · intro h
    exact ⟨x, h, by show (x == x) = true; simp⟩
theorem flat_I : ∀ ls : List Int, (ls.map V.int).all flatV = true
  | [] => rfl
  | x :: r => by rw [List.map_cons, List.all_cons, flat_I r]; rfl
theorem s_inI {x : Int} {ls : List Int} (h : SqL K H a (ls.map V.int)) (k : Q (.bl (decide (x ∈ ls))) H) : rIn K false (.int x) (.ref a) H Q := ⟨a, _, rfl, .inl h, rfl, flat_I ls, by rw [inV_I]; exact k⟩
end
end WB
namespace WB
open PySem PySem.Spec PyProof.Rows L2
def t_law_sorts (K : PySem.W.Frag) : TS :=
  (tSeq (tAsg (tLst (tCons (tCB (rIsV K) (tCons (tVar 0) (tCons (tC (.ref (He.ga K "InvalidWord"))) tNil))) (tCons (tCB (rIsV K) (tCons (tVar 0) (tCons (tC (.ref (He.ga K "InvalidSigns"))) tNil))) (tCons (tCB (rIsV K) (tCons (tVar 0) (tCons (tC (.ref (He.ga K "InvalidNumber"))) tNil))) tNil)))) (gName 1))
  (tSeq (tAsg (tOp rCat (tVar 1) (tLst (tCons (tCB (rIsV K) (tCons (tVar 0) (tCons (tC (.ref (He.ga K "InvalidRound"))) tNil))) (tCons (tCB (rIsV K) (tCons (tVar 0) (tCons (tC (.ref (He.ga K "InvalidPlace"))) tNil))) (tCons (tCB (rIsV K) (tCons (tVar 0) (tCons (tC (.ref (He.ga K "InvalidRow"))) tNil))) tNil))))) (gName 1))
  (tSeq (tAsg (tOp rCat (tVar 1) (tLst (tCons (tCB (rIsV K) (tCons (tVar 0) (tCons (tC (.ref (He.ga K "InvalidWish"))) tNil))) (tCons (tCB (rIsV K) (tCons (tVar 0) (tCons (tC (.ref (He.ga K "InvalidIndex"))) tNil))) (tCons (tCB (rIsV K) (tCons (tVar 0) (tCons (tC (.ref (He.ga K "InvalidName"))) tNil))) tNil))))) (gName 1))
  (tSeq (tAsg (tOp rCat (tVar 1) (tLst (tCons (tCB (rIsV K) (tCons (tVar 0) (tCons (tC (.ref (He.ga K "NotARing"))) tNil))) (tCons (tCB (rIsV K) (tCons (tVar 0) (tCons (tC (.ref (He.ga K "NotAKind"))) tNil))) (tCons (tCB (rIsV K) (tCons (tVar 0) (tCons (tC (.ref (He.ga K "NotALoop"))) tNil))) tNil))))) (gName 1))
  (tSeq (tAsg (tOp rCat (tVar 1) (tLst (tCons (tCB (rIsV K) (tCons (tVar 0) (tCons (tC (.ref (He.ga K "OtherSigns"))) tNil))) (tCons (tCB (rIsV K) (tCons (tVar 0) (tCons (tC (.ref (He.ga K "InvalidPairs"))) tNil))) (tCons (tCB (rIsV K) (tCons (tVar 0) (tCons (tC (.ref (He.ga K "InvalidStates"))) tNil))) tNil))))) (gName 1))
  (tSeq (tAsg (tOp rCat (tVar 1) (tLst (tCons (tCB (rIsV K) (tCons (tVar 0) (tCons (tC (.ref (He.ga K "InvalidRows"))) tNil))) (tCons (tCB (rIsV K) (tCons (tVar 0) (tCons (tC (.ref (He.ga K "InvalidTurns"))) tNil))) (tCons (tCB (rIsV K) (tCons (tVar 0) (tCons (tC (.ref (He.ga K "InvalidChanges"))) tNil))) tNil))))) (gName 1))
  (tSeq (tAsg (tOp rCat (tVar 1) (tLst (tCons (tCB (rIsV K) (tCons (tVar 0) (tCons (tC (.ref (He.ga K "UnknownName"))) tNil))) (tCons (tCB (rIsV K) (tCons (tVar 0) (tCons (tC (.ref (He.ga K "InUse"))) tNil))) (tCons (tCB (rIsV K) (tCons (tVar 0) (tCons (tC (.ref (He.ga K "TooMany"))) tNil))) tNil))))) (gName 1))
  (tRet (tOp rCat (tVar 1) (tLst (tCons (tCB (rIsV K) (tCons (tVar 0) (tCons (tC (.ref (He.ga K "NoRing"))) tNil))) (tCons (tCB (rIsV K) (tCons (tVar 0) (tCons (tC (.ref (He.ga K "NothingToUndo"))) tNil))) (tCons (tCB (rIsV K) (tCons (tVar 0) (tCons (tC (.ref (He.ga K "Broken"))) tNil))) tNil)))))))))))))
def t_law_kept (K : PySem.W.Frag) : TS :=
  (tSeq (tIfS (tTest (tOp (rIn K false) (tVar 1) (tLst (tCons (tC (.int 21)) (tCons (tC (.int 22)) tNil))))) (tRet (tLst tNil)) tNext)
  (tSeq (tIfS (tTest (tOp rEq (tVar 1) (tC (.int 20)))) (tRet (tLst (tCons (tVX K (tVar 0) "limit") tNil))) tNext)
  (tRet (tIf (tOr (tTest (tOp rLtI (tVar 1) (tC (.int 13)))) (tTest (tOp rEq (tVar 1) (tC (.int 18))))) (tLst (tCons (tVX K (tVar 0) "given") tNil)) (tLst (tCons (tVX K (tVar 0) "index") tNil))))))
def t_law_constants (K : PySem.W.Frag) : TS :=
  (tSeq (tAsg (tLst (tCons (tC (.int 4)) (tCons (tC (.int 6)) (tCons (tC (.int 600)) (tCons (tC (.int 600)) (tCons (tC (.int 99)) (tCons (tC (.int 30)) tNil))))))) (gName 0))
  (tRet (tOp rCat (tVar 0) (tLst (tCons (tC (.int 9)) (tCons (tC (.int 6)) (tCons (tC (.int 9)) (tCons (tC (.int 9)) tNil))))))))
section
variable {K : PySem.W.Frag} {vs : List V} {H : Hp} {Q : VK} {E : XK} {a : Addr} {i : Nat} {fs : List (Str × V)} {v : V} {σ : L2.St}
theorem row3 {j : Nat} {c0 c1 c2 : Addr} (T : Vs01 K) (hi : i < 24) (hE : ExcAt H a (cl01 K i) fs) (h0 : σ[0]? = some (some (.ref a))) (hj : j + 2 < 24) (e0 : c0 = cl01 K j) (e1 : c1 = cl01 K (j + 1)) (e2 : c2 = cl01 K (j + 2))
    (k : ∀ p H', H p = none → Ex [] H H' → H' p = some (.lst ([j, j + 1, j + 2].map fun n => V.bl (decide (n = i)))) → Q (.ref p) H') :
    tLst (tCons (tCB (rIsV K) (tCons (tVar 0) (tCons (tC (.ref c0)) tNil))) (tCons (tCB (rIsV K) (tCons (tVar 0) (tCons (tC (.ref c1)) tNil))) (tCons (tCB (rIsV K) (tCons (tVar 0) (tCons (tC (.ref c2)) tNil))) tNil))) σ H Q := by
  refine s_lst (s_cons (s_cb (s_cons (s_var h0 (s_cons (s_c (s_nil (s_isO hE T hi (j := j) (by omega) e0 ?_))))))))
  refine s_cons (s_cb (s_cons (s_var h0 (s_cons (s_c (s_nil (s_isO hE T hi (j := j + 1) (by omega) e1 ?_)))))))
  refine s_cons (s_cb (s_cons (s_var h0 (s_cons (s_c (s_nil (s_isO hE T hi (j := j + 2) (by omega) e2 ?_)))))))
  exact s_nil (s_alloc (by rw [sizeLine_eq]; simp) k)
theorem cat3 {n : Nat} {p0 : Addr} {c0 c1 c2 : Addr} (T : Vs01 K) (hi : i < 24) (hE : ExcAt H a (cl01 K i) fs) (h0 : σ[0]? = some (some (.ref a))) (h1 : σ[1]? = some (some (.ref p0))) (hp : H p0 = some (.lst ((List.range n).map fun j => V.bl (decide (j = i))))) (hn : n + 2 < 24)
    (e0 : c0 = cl01 K n) (e1 : c1 = cl01 K (n + 1)) (e2 : c2 = cl01 K (n + 2)) (k : ∀ p H', H p = none → Ex [] H H' → H' p = some (.lst ((List.range (n + 3)).map fun j => V.bl (decide (j = i)))) → Q (.ref p) H') :
    tOp rCat (tVar 1) (tLst (tCons (tCB (rIsV K) (tCons (tVar 0) (tCons (tC (.ref c0)) tNil))) (tCons (tCB (rIsV K) (tCons (tVar 0) (tCons (tC (.ref c1)) tNil))) (tCons (tCB (rIsV K) (tCons (tVar 0) (tCons (tC (.ref c2)) tNil))) tNil)))) σ H Q := by
  refine s_op (s_var h1 (row3 (j := n) T hi hE h0 hn e0 e1 e2 fun p H1 hp1 x1 q1 => s_cat (x1 _ _ (by simp) hp) q1 (by rw [sizeLine_eq]; simp; omega) fun p2 H2 hp2 x2 q2 => k p2 H2 (x1.free hp2) (x1.trans x2) ?_))
  rw [q2]
  simp [List.range_succ]
theorem pure_law_sorts (T : Vs01 K) (h : sp_law_sorts K vs H Q E) : t_law_sorts K (E1 Q) (start ["_law_e", "_law_found"] vs) H := by
  obtain ⟨a, rfl, i, fs, hi, hE, k⟩ := h
  show t_law_sorts K (E1 Q) [some (.ref a), none] H
  unfold t_law_sorts
  have st : ∀ {H1 : Hp}, Ex [] H H1 → ExcAt H1 a (cl01 K i) fs := fun e => hE.ex fun b o hb => e b o (by simp) hb
  refine s_seq (s_asg (row3 (j := 0) T hi hE rfl (by decide) rfl rfl rfl fun p0 H0 hp0 e0 q0 => s_gName ?_))
  have t0 : Ex [] H H0 := e0
  refine s_seq (s_asg (cat3 (n := 3) T hi (st t0) rfl rfl q0 (by decide) rfl rfl rfl fun p1 H1 hp1 e1 q1 =>  s_gName ?_))
  have t1 : Ex [] H H1 := t0.trans e1
  refine s_seq (s_asg (cat3 (n := 6) T hi (st t1) rfl rfl q1 (by decide) rfl rfl rfl fun p2 H2 hp2 e2 q2 =>  s_gName ?_))
  have t2 : Ex [] H H2 := t1.trans e2
  refine s_seq (s_asg (cat3 (n := 9) T hi (st t2) rfl rfl q2 (by decide) rfl rfl rfl fun p3 H3 hp3 e3 q3 =>  s_gName ?_))
  have t3 : Ex [] H H3 := t2.trans e3
  refine s_seq (s_asg (cat3 (n := 12) T hi (st t3) rfl rfl q3 (by decide) rfl rfl rfl fun p4 H4 hp4 e4 q4 =>  s_gName ?_))
  have t4 : Ex [] H H4 := t3.trans e4
  refine s_seq (s_asg (cat3 (n := 15) T hi (st t4) rfl rfl q4 (by decide) rfl rfl rfl fun p5 H5 hp5 e5 q5 =>  s_gName ?_))
  have t5 : Ex [] H H5 := t4.trans e5
  refine s_seq (s_asg (cat3 (n := 18) T hi (st t5) rfl rfl q5 (by decide) rfl rfl rfl fun p6 H6 hp6 e6 q6 =>  s_gName ?_))
  have t6 : Ex [] H H6 := t5.trans e6
  exact s_ret (cat3 (n := 21) T hi (st t6) rfl rfl q6 (by decide) rfl rfl rfl fun p7 H7 hp7 e7 q7 =>  k p7 H7 (t6.free hp7) (t6.trans e7) q7)
theorem fld01 : ∀ (i : Nat), i < 24 → (i = 20 ∧ fl01.getD i "" = "limit" ∧ fs01 i v = [(("limit" : Str), v)]) ∨ ((i < 13 ∨ i = 18) ∧ fl01.getD i "" = "given" ∧ fs01 i v = [(("given" : Str), v)]) ∨ ((13 ≤ i ∧ i ≠ 18 ∧ i ≠ 20 ∧ i ≠ 21 ∧ i ≠ 22) ∧ fl01.getD i "" = "index" ∧ fs01 i v = [(("index" : Str), v)]) ∨ (i = 21 ∨ i = 22)
  | 0, _ => .inr (.inl ⟨by decide, rfl, rfl⟩)
  | 1, _ => .inr (.inl ⟨by decide, rfl, rfl⟩)
  | 2, _ => .inr (.inl ⟨by decide, rfl, rfl⟩)
  | 3, _ => .inr (.inl ⟨by decide, rfl, rfl⟩)
  | 4, _ => .inr (.inl ⟨by decide, rfl, rfl⟩)
  | 5, _ => .inr (.inl ⟨by decide, rfl, rfl⟩)
  | 6, _ => .inr (.inl ⟨by decide, rfl, rfl⟩)
  | 7, _ => .inr (.inl ⟨by decide, rfl, rfl⟩)
  | 8, _ => .inr (.inl ⟨by decide, rfl, rfl⟩)
  | 9, _ => .inr (.inl ⟨by decide, rfl, rfl⟩)
  | 10, _ => .inr (.inl ⟨by decide, rfl, rfl⟩)
  | 11, _ => .inr (.inl ⟨by decide, rfl, rfl⟩)
  | 12, _ => .inr (.inl ⟨by decide, rfl, rfl⟩)
  | 13, _ => .inr (.inr (.inl ⟨by decide, rfl, rfl⟩))
  | 14, _ => .inr (.inr (.inl ⟨by decide, rfl, rfl⟩))
  | 15, _ => .inr (.inr (.inl ⟨by decide, rfl, rfl⟩))
  | 16, _ => .inr (.inr (.inl ⟨by decide, rfl, rfl⟩))
  | 17, _ => .inr (.inr (.inl ⟨by decide, rfl, rfl⟩))
  | 18, _ => .inr (.inl ⟨by decide, rfl, rfl⟩)
  | 19, _ => .inr (.inr (.inl ⟨by decide, rfl, rfl⟩))
  | 20, _ => .inl ⟨rfl, rfl, rfl⟩
  | 21, _ => .inr (.inr (.inr (by decide)))
  | 22, _ => .inr (.inr (.inr (by decide)))
  | 23, _ => .inr (.inr (.inl ⟨by decide, rfl, rfl⟩))
  | n + 24, h => absurd h (by omega)
theorem s_vx {f : Str} (T : Vs01 K) (hi : i < 24) (hE : ExcAt H a (cl01 K i) (fs01 i v)) (h0 : σ[0]? = some (some (.ref a))) (hf : fl01.getD i "" = f) (hs : fs01 i v = [(f, v)]) (hn : f ≠ "") (k : Q v H) : tVX K (tVar 0) f σ H Q := by
  rcases hE with ⟨e, _⟩ | ⟨d, h1, h2⟩
  · rw [hs] at e
    cases e
  · refine ⟨.ref a, h0, a, cl01 K i, d, fs01 i v, v, rfl, h1, h2, T.xf i hi, ?_, ?_, k⟩
    · have z := T.no i hi (by rw [hf]; exact hn)
      rw [hf] at z
      exact z
    · rw [hs]
      simp [List.lookup]
theorem pure_law_kept (T : Vs01 K) (h : sp_law_kept K vs H Q E) : t_law_kept K (E1 Q) (start ["_law_e", "_law_at"] vs) H := by
  obtain ⟨a, i, rfl, v, hi, hE, k⟩ := h
  show t_law_kept K (E1 Q) [some (.ref a), some (.int (i : Nat))] H
  unfold t_law_kept
  refine s_seq (s_ifS (s_test (s_op (s_var rfl (s_lst (s_cons (s_c (s_cons (s_c (s_nil (s_alloc (by decide) fun p H1 hp e1 q1 => ?_)))))))))))
  refine s_inI (ls := [21, 22]) (SqL.of q1) (s_blQ ?_)
  have hE1 : ExcAt H1 a (cl01 K i) (fs01 i v) := hE.ex fun b o hb => e1 b o (by simp) hb
  by_cases h2 : i = 21 ∨ i = 22
  · refine s_T (decide_eq_true (by simp; omega)) (s_ret (s_lst (s_nil (s_alloc (by decide) fun p2 H2 hp2 e2 q2 => k p2 H2 (e1.free hp2) (e1.trans e2) ?_))))
    rw [if_pos h2]
    exact q2
  refine s_F (decide_eq_false (by simp; omega)) (s_next ?_)
  refine s_seq (s_ifS (s_test (s_op (s_var rfl (s_c (s_eqI (s_blQ ?_)))))))
  have fin : ∀ p H', H1 p = none → Ex [] H1 H' → H' p = some (.lst [v]) → Q (.ref p) H' := fun p H' n e q => k p H' (e1.free n) (e1.trans e) (by rw [if_neg h2]; exact q)
  rcases fld01 (v := v) i hi with ⟨z, f1, f2⟩ | ⟨z, f1, f2⟩ | ⟨z, f1, f2⟩ | z
  · refine s_T (decide_eq_true (by omega)) (s_ret (s_lst (s_cons (s_vx T hi hE1 rfl f1 f2 (by decide +kernel) (s_nil (s_alloc (by rw [sizeLine_eq]; simp) fin))))))
  · refine s_F (decide_eq_false (by omega)) (s_next (s_ret (s_ifE (s_or (s_test (s_op (s_var rfl (s_c (s_ltI (s_blQ ?_))))))))))
    have go : tLst (tCons (tVX K (tVar 0) "given") tNil) [some (.ref a), some (.int (i : Nat))] H1 Q := s_lst (s_cons (s_vx T hi hE1 rfl f1 f2 (by decide +kernel) (s_nil (s_alloc (by rw [sizeLine_eq]; simp) fin))))
    by_cases h3 : i < 13
    · exact s_T (decide_eq_true (by omega)) (s_T rfl go)
    · refine s_F (decide_eq_false (by omega)) (s_test (s_op (s_var rfl (s_c (s_eqI (s_blQ (s_T (decide_eq_true (by omega)) go)))))))
  · refine s_F (decide_eq_false (by omega)) (s_next (s_ret (s_ifE (s_or (s_test (s_op (s_var rfl (s_c (s_ltI (s_blQ (s_F (decide_eq_false (by omega)) (s_test (s_op (s_var rfl (s_c (s_eqI (s_blQ (s_F (decide_eq_false (by omega)) ?_))))))))))))))))))
    exact s_lst (s_cons (s_vx T hi hE1 rfl f1 f2 (by decide +kernel) (s_nil (s_alloc (by rw [sizeLine_eq]; simp) fin))))
  · exact absurd z h2
theorem pure_law_constants (h : sp_law_constants K vs H Q E) : t_law_constants K (E1 Q) (start ["_law_found"] vs) H := by
  obtain ⟨rfl, k⟩ := h
  show t_law_constants K (E1 Q) [none] H
  unfold t_law_constants
  refine s_seq (s_asg (s_lst (s_cons (s_c (s_cons (s_c (s_cons (s_c (s_cons (s_c (s_cons (s_c (s_cons (s_c (s_nil (s_alloc (by decide) fun p H1 hp e1 q1 => s_gName ?_))))))))))))))))
  refine s_ret (s_op (s_var rfl (s_lst (s_cons (s_c (s_cons (s_c (s_cons (s_c (s_cons (s_c (s_nil (s_alloc (by decide) fun p2 H2 hp2 e2 q2 => ?_)))))))))))))
  refine s_cat (e2 _ _ (by simp) q1) q2 (by decide) fun p3 H3 hp3 e3 q3 => k p3 H3 ((e1.trans e2).free hp3) (e1.trans (e2.trans e3)) q3
end
end WB
namespace WB
open PySem PySem.Spec PyProof.Rows L2
theorem lx_116_117_112_108_101 : ("tuple" : Str) = S [116, 117, 112, 108, 101] := by decide +kernel
theorem lx_108_105_115_116 : ("list" : Str) = S [108, 105, 115, 116] := by decide +kernel
theorem lx_100_105_99_116 : ("dict" : Str) = S [100, 105, 99, 116] := by decide +kernel
theorem lx_116_114_117_116_104 : ("truth" : Str) = S [116, 114, 117, 116, 104] := by decide +kernel
theorem lx_112_108_97_105_110 : ("plain" : Str) = S [112, 108, 97, 105, 110] := by decide +kernel
local macro_rules | `(tactic| walk_at "lit") => `(tactic| first | exact lx_116_117_112_108_101 | exact lx_108_105_115_116 | exact lx_100_105_99_116 | exact lx_116_114_117_116_104 | exact lx_112_108_97_105_110)
local macro_rules | `(tactic| walk_at "lit") => `(tactic| first | exact lit_abc | exact lit_empty)
local macro_rules | `(tactic| walk_at "nm") => `(tactic| focus first | exact List.not_mem_nil | (simp only [List.mem_singleton]; first | assumption | (exact Ne.symm (by assumption)) | (intro hz; subst hz; simp_all; done)))
local macro_rules | `(tactic| walk_at "hp") => `(tactic| first | assumption | (apply Ex.get0 (by assumption); walk_at "hp") | (apply Ex.get (by assumption); (walk_at "nm"); (walk_at "hp")))
local macro_rules | `(tactic| walk_at "sq") => `(tactic| first | assumption | (apply SqL.of; walk_at "hp") | (apply Ex.sqL (by assumption); (walk_at "nm"); (walk_at "sq")))
local macro_rules | `(tactic| walk_at "sqt") => `(tactic| first | assumption | (apply SqT.of; walk_at "hp") | (apply Ex.sqT (by assumption); (walk_at "nm"); (walk_at "sqt")))
local macro_rules | `(tactic| walk_at "sz") => `(tactic| focus ((with_reducible refine Nat.le_trans (m := 100000) ?_ (by decide)); first | omega | (simp; done) | (simp; omega)))
local macro_rules | `(tactic| walk_at "mul") => `(tactic| first | exact Or.inr ⟨by omega, by omega⟩ | exact Or.inl ⟨by omega, by omega⟩)
local macro_rules | `(tactic| walk_at "pool") => `(tactic| first | assumption | (apply PoolAt.ex (by assumption); (walk_at "nm"); (walk_at "pool")))
local macro_rules | `(tactic| walk_at "ring") => `(tactic| first | assumption | (apply RingAt.ex (by assumption); (walk_at "nm"); (walk_at "ring")))
local macro_rules | `(tactic| walk_at "st") => `(tactic| first
  | with_reducible refine s_seq ?_
  | with_reducible refine s_asg ?_
  | with_reducible refine s_gName ?_
  | with_reducible refine s_ret ?_
  | with_reducible refine s_ifS ?_
  | with_reducible refine s_next ?_
  | with_reducible refine s_op ?_
  | ((with_reducible apply s_var); exact rfl)
  | ((with_reducible apply s_cS); (walk_at "lit"))
  | with_reducible refine s_c ?_
  | with_reducible refine s_cb ?_
  | with_reducible refine s_cons ?_
  | with_reducible refine s_nil ?_
  | with_reducible refine s_un ?_
  | with_reducible refine s_call ?_
  | with_reducible refine s_test ?_
  | with_reducible refine s_tB ?_
  | with_reducible refine s_blQ ?_
  | with_reducible refine s_not ?_
  | with_reducible refine s_and ?_
  | with_reducible refine s_or ?_
  | with_reducible refine s_andV ?_
  | with_reducible refine s_orV ?_
  | with_reducible refine s_notV ?_
  | with_reducible refine s_ifE ?_
  | with_reducible refine s_chain ?_
  | ((with_reducible refine s_T ?_ ?_); (with_reducible exact rfl))
  | with_reducible refine s_nT ?_
  | with_reducible refine s_nF ?_
  | ((with_reducible refine s_F ?_ ?_); (with_reducible exact rfl))
  | ((with_reducible refine s_T ?_ ?_); assumption)
  | ((with_reducible refine s_F ?_ ?_); assumption)
  | ((with_reducible refine s_nB ?_ ?_); assumption)
  | ((with_reducible refine s_nA ?_ ?_); assumption)
  | ((with_reducible refine s_Td ?_ ?_); omega)
  | ((with_reducible refine s_Fd ?_ ?_); omega)
  | ((with_reducible refine s_nTd ?_ ?_); omega)
  | ((with_reducible refine s_nFd ?_ ?_); omega)
  | with_reducible refine s_sfld ?_
  | with_reducible refine s_addI ?_
  | with_reducible refine s_subI ?_
  | ((with_reducible refine s_mulI ?_ ?_); (walk_at "mul"))
  | ((with_reducible refine s_divI ?_ ?_); exact ⟨by omega, by omega⟩)
  | ((with_reducible refine s_modI ?_ ?_); omega)
  | ((with_reducible refine s_powI ?_ ?_); exact ⟨by decide, by decide, by decide⟩)
  | with_reducible refine s_ltI ?_
  | with_reducible refine s_leI ?_
  | with_reducible refine s_gtI ?_
  | with_reducible refine s_geI ?_
  | with_reducible refine s_negI ?_
  | with_reducible refine s_absI ?_
  | with_reducible refine s_intI ?_
  | with_reducible refine s_min2 ?_
  | with_reducible refine s_max2 ?_
  | with_reducible refine s_eqI ?_
  | with_reducible refine s_neI ?_
  | with_reducible refine s_eqS ?_
  | with_reducible refine s_neS ?_
  | with_reducible refine s_inSg ?_
  | with_reducible refine s_notInSg ?_
  | ((with_reducible refine s_addS ?_ ?_); (walk_at "sz"))
  | ((with_reducible refine s_lenS ?_ ?_); (walk_at "sz"))
  | ((with_reducible apply s_lenL); (walk_at "sq"))
  | ((with_reducible apply s_lenT); (walk_at "sqt"))
  | ((with_reducible apply s_ixL); (walk_at "sq"); exact rfl)
  | ((with_reducible apply s_ixT); (walk_at "sqt"); exact rfl)
  | with_reducible refine s_gSub ?_
  | ((with_reducible apply s_setL); (walk_at "hp"); (exact rfl); (intro _ _ _))
  | ((with_reducible refine s_alloc ?_ ?_); (walk_at "sz"); (intro _ _ _ _ _))
  | ((with_reducible refine s_divmod ?_ ?_); (exact ⟨by omega, PyProof.noPylong_small (by omega)⟩); (intro _ _ _ _ _))
  | ((with_reducible apply s_gTup); (walk_at "sqt"); (exact rfl))
  | ((with_reducible apply s_gLst); (walk_at "sq"); (exact rfl))
  | with_reducible refine s_gCons ?_
  | with_reducible refine s_gNil ?_
  | with_reducible refine s_lc ?_
  | ((with_reducible apply s_cat); (walk_at "hp"); (walk_at "hp"); (walk_at "sz"); (intro _ _ _ _ _))
  | ((with_reducible apply s_slL); (walk_at "sq"); (intro _ _ _ _ _))
  | with_reducible refine s_for ?_
  | with_reducible refine s_rng1 ?_
  | ((with_reducible refine s_rng1i ?_ ?_); (constructor <;> omega))
  | with_reducible refine s_rng2 ?_
  | ((with_reducible refine s_rng2i ?_ ?_); (refine ⟨?_, ?_, ?_, ?_⟩ <;> omega))
  | with_reducible refine s_iStr ?_
  | with_reducible refine s_iStrS ?_
  | with_reducible refine s_iList ?_
  | ((with_reducible apply s_iListA); (walk_at "sq"))
  | with_reducible refine s_iTup ?_
  | ((with_reducible apply s_iTupA); (walk_at "sqt"))
  | with_reducible refine s_sl ?_
  | with_reducible refine s_noPart ?_
  | with_reducible refine s_part ?_
  | with_reducible refine s_int1 ?_
  | ((with_reducible refine s_slS ?_ ?_); (walk_at "sz"))
  | with_reducible refine s_tup ?_
  | with_reducible refine s_lst ?_
  | with_reducible refine s_par ?_
  | with_reducible refine s_pair ?_
  | with_reducible refine s_M1 ?_
  | with_reducible refine s_isStr ?_
  | with_reducible refine s_revS ?_
  | ((with_reducible refine s_revS1 ?_ ?_); (walk_at "sz"))
  | with_reducible refine s_fldE ?_
  | with_reducible refine s_propE ?_
  | ((with_reducible refine u_draw ?_ ?_ ?_ ?_); omega; omega; (walk_at "pool"); (intro _ _ _ _ _ _))
  | ((with_reducible refine u_pool ?_); (intro _ _ _ _ _))
  | with_reducible refine u_is_integer ?_
  | with_reducible refine s_isiII ?_
  | with_reducible refine s_isiIB ?_
  | with_reducible refine s_isiSS ?_
  | ((with_reducible apply u_fldRing); assumption; (walk_at "ring"))
  | ((with_reducible apply u_textP); (walk_at "ring"))
  | ((with_reducible apply u_strRing); (walk_at "ring"))
  | ((with_reducible apply u_eqRing); (walk_at "ring"); (walk_at "ring"))
  | ((with_reducible apply u_isiRing); assumption; (walk_at "ring"))
  | ((with_reducible refine u_is_word ?_ ?_); omega; (intro _ _))
  | ((with_reducible refine u_turnings ?_ ?_); omega; (intro _ _ _ _ _))
  | with_reducible refine s_makeE ?_
  | with_reducible refine s_methE ?_)
local macro_rules | `(tactic| walk_at "go") => `(tactic| repeat (walk_at "st"))
local macro_rules | `(tactic| walk_at "exs") => `(tactic| first | exact Ex.rfl | assumption | (apply Ex.snoc (by assumption); walk_at "exs") | (apply Ex.snocW (by assumption); walk_at "exs"))
local macro_rules | `(tactic| walk_at "kind") => `(tactic| first | assumption | (apply KindAt.ex0 (by assumption); (walk_at "kind")) | (apply KindAt.exP (by assumption) (by assumption); (walk_at "kind")))
local macro_rules | `(tactic| walk_at "st") => `(tactic| first
  | with_reducible refine s_lenSet ?_
  | with_reducible refine s_drop ?_
  | with_reducible refine s_bm ?_
  | with_reducible refine s_notN ?_
  | with_reducible refine s_isN ?_
  | ((with_reducible apply s_tyL); (walk_at "hp"))
  | with_reducible refine s_enumT ?_
  | ((with_reducible apply s_enumTA); (walk_at "sqt"))
  | with_reducible refine s_lc2 ?_)
def t_law_faceX (K : PySem.W.Frag) (n : Nat) : TS :=
  (tSeq (tIfS (tB (tCB (rIsi K) (tCons (tVar 0) (tCons (tC (.ty "tuple")) tNil)))) (tRet (tOp rCat (tLst (tCons (tC (.str "tuple")) tNil)) (tLc (iTup K (tVar 0)) (gName 1) tYes (tCall (sp_law_faceX K n) [] E0 (tCons (tVar 1) tNil)) [1]))) tNext)
  (tSeq (tIfS (tB (tCB (rIsi K) (tCons (tVar 0) (tCons (tC (.ty "list")) tNil)))) (tRet (tOp rCat (tLst (tCons (tC (.str "list")) tNil)) (tLc (iList K (tVar 0)) (gName 1) tYes (tCall (sp_law_faceX K n) [] E0 (tCons (tVar 1) tNil)) [1]))) tNext)
  (tSeq (tIfS (tB (tCB (rIsi K) (tCons (tVar 0) (tCons (tC (.ty "dict")) tNil)))) (tRet (tOp rCat (tLst (tCons (tC (.str "dict")) tNil)) (tLockE (tLc (iKeys (tVar 0)) (gName 2) tYes (tLst (tCons (tCall (sp_law_faceX K n) [] E0 (tCons (tVar 2) tNil)) (tCons (tCall (sp_law_faceX K n) [] E0 (tCons (tDGet (tVar 0) (tVar 2)) tNil)) tNil))) [2])))) tNext)
  (tRet (tLst (tCons (tIf (tB (tCB (rIsi K) (tCons (tVar 0) (tCons (tC (.ty "bool")) tNil)))) (tC (.str "truth")) (tC (.str "plain"))) (tCons (tVar 0) tNil)))))))
section
variable {K : PySem.W.Frag} {vs : List V} {H : Hp} {Q : VK} {E : XK}
theorem fr_pairX {F : Addr → Prop} {n : Nat} {r : Addr} {v : V} {d : PyData} (hs : Scal v d) (f : F r) (h : H r = some (.lst [vS (tagOf d), v])) : Fr F H (2 * n + 1) (.ref r) (faceX n d) := by
  rw [face_scalX hs]
  have ht := tag_plain hs
  refine Fr.le (n := 1) (by omega) (.inr ⟨r, _, _, rfl, rfl, f, h, rfl, fun i x e h1 h2 => ?_⟩)
  match i, h1, h2 with
  | 0, h1, h2 => cases h1; cases h2; exact .inr (.inr (.inr ⟨_, ht, rfl, rfl⟩))
  | 1, h1, h2 => cases h1; cases h2; exact hs
theorem fr_partsX {F : Addr → Prop} {m : Nat} {r : Addr} {t : List Nat} {ys : List V} {ds : List PyData} {g : PyData → PyData} (ht : plain t) (f : F r) (h : H r = some (.lst ([vS t] ++ ys))) (hl : ys.length = ds.length) (hf : ∀ (i : Nat) y e, ys[i]? = some y → ds[i]? = some e → Fr F H (m + 1) y (g e)) :
    Fr F H (m + 1 + 1) (.ref r) (.list (dS t :: ds.map g)) := by
  refine .inr ⟨r, _, _, rfl, rfl, f, h, by simp [hl], fun i x e h1 h2 => ?_⟩
  match i, h1, h2 with
  | 0, h1, h2 => cases h1; cases h2; exact .inl (.inr (.inr (.inr ⟨_, ht, rfl, rfl⟩)))
  | i + 1, h1, h2 =>
    rw [List.getElem?_cons_succ, List.getElem?_map] at h2
    obtain ⟨e', h3, rfl⟩ := Option.map_eq_some_iff.mp h2
    exact hf i x e' h1 h3
theorem pure_law_faceX {n : Nat} (h : sp_law_faceX K (n + 1) vs H Q E) : t_law_faceX K n (E1 Q) (start ["_law_thing", "_law_part", "_law_key"] vs) H := by
  obtain ⟨v, rfl, d, hd, k⟩ := h
  show t_law_faceX K n (E1 Q) [some v, none, none] H
  have scal : Scal v d → t_law_faceX K n (E1 Q) [some v, none, none] H := by
    intro hs
    have hs' := hs
    unfold t_law_faceX
    rcases hs with ⟨rfl, rfl⟩ | ⟨b, rfl, rfl⟩ | ⟨i, rfl, rfl⟩ | ⟨l, hl, rfl, rfl⟩
    · walk_at "go"
      refine s_isiK Kd.non (b := false) (by decide +kernel) ?_
      walk_at "go"
      refine s_isiK Kd.non (b := false) (by decide +kernel) ?_
      walk_at "go"
      refine s_isiK Kd.non (b := false) (by decide +kernel) ?_
      walk_at "go"
      refine s_isiK Kd.non (b := false) (by decide +kernel) ?_
      walk_at "go"
      rename_i r H' nr e h
      exact k r H' nr e (fr_pairX hs' nr h)
    · walk_at "go"
      refine s_isiK Kd.bl (b := false) (by decide +kernel) ?_
      walk_at "go"
      refine s_isiK Kd.bl (b := false) (by decide +kernel) ?_
      walk_at "go"
      refine s_isiK Kd.bl (b := false) (by decide +kernel) ?_
      walk_at "go"
      refine s_isiK Kd.bl (b := true) (by decide +kernel) ?_
      walk_at "go"
      rename_i r H' nr e h
      exact k r H' nr e (fr_pairX hs' nr h)
    · walk_at "go"
      refine s_isiK Kd.int (b := false) (by decide +kernel) ?_
      walk_at "go"
      refine s_isiK Kd.int (b := false) (by decide +kernel) ?_
      walk_at "go"
      refine s_isiK Kd.int (b := false) (by decide +kernel) ?_
      walk_at "go"
      rename_i r H' nr e h
      exact k r H' nr e (fr_pairX hs' nr h)
    · walk_at "go"
      refine s_isiK Kd.str (b := false) (by decide +kernel) ?_
      walk_at "go"
      refine s_isiK Kd.str (b := false) (by decide +kernel) ?_
      walk_at "go"
      refine s_isiK Kd.str (b := false) (by decide +kernel) ?_
      walk_at "go"
      refine s_isiK Kd.str (b := false) (by decide +kernel) ?_
      walk_at "go"
      rename_i r H' nr e h
      exact k r H' nr e (fr_pairX hs' nr h)
  cases n with
  | zero => exact scal hd
  | succ n =>
    rcases hd with hd | ⟨a, xs, ds, rfl, rfl, h1, hn, hl, h2⟩ | ⟨a, xs, ds, rfl, rfl, h1, hn, hl, h2⟩ | ⟨a, rfl, rfl, h1⟩ | ⟨a, y, e0, rfl, rfl, h1, h2⟩
    · exact scal hd
    · unfold t_law_faceX
      walk_at "go"
      refine s_isiK (Kd.tup h1) (b := true) (by decide +kernel) ?_
      walk_at "go"
      rename_i q1 H1 n1 e1 h3
      refine lc_facesX (ds := ds) (n := n) (walk_tup (xs := xs)) (fun H2 e2 => (e1.trans e2).sqT (by simp) h1) hn (by simp) hl (fun i x e hx he => Dx.ex e1 _ _ _ (h2 i x e hx he)) fun D H2 ys nD e2 hD hyl hf => ?_
      walk_at "go"
      rename_i p H3 np e3 hp
      have fr : H p = none := e1.free (e2.free np)
      refine k p H3 fr ((e1.trans e2).trans e3) (Fr.le (n := 2 * n + 2) (by omega) (fr_partsX plain_tags.1 fr hp hyl fun i y e hy he => ?_))
      exact Fr.mono (fun a h => e1.free h.1) (fun a zs _ ha => e3.get0 ha) _ _ _ (hf i y e hy he)
    · unfold t_law_faceX
      walk_at "go"
      refine s_isiK (Kd.lst h1) (b := false) (by decide +kernel) ?_
      walk_at "go"
      refine s_isiK (Kd.lst h1) (b := true) (by decide +kernel) ?_
      walk_at "go"
      rename_i q1 H1 n1 e1 h3
      refine lc_facesX (ds := ds) (n := n) (walk_list (xs := xs)) (fun H2 e2 => SqL.of ((e1.trans e2).get0 h1)) hn (by simp) hl (fun i x e hx he => Dx.ex e1 _ _ _ (h2 i x e hx he)) fun D H2 ys nD e2 hD hyl hf => ?_
      walk_at "go"
      rename_i p H3 np e3 hp
      have fr : H p = none := e1.free (e2.free np)
      refine k p H3 fr ((e1.trans e2).trans e3) (Fr.le (n := 2 * n + 2) (by omega) (fr_partsX plain_tags.2.1 fr hp hyl fun i y e hy he => ?_))
      exact Fr.mono (fun a h => e1.free h.1) (fun a zs _ ha => e3.get0 ha) _ _ _ (hf i y e hy he)
    · unfold t_law_faceX
      walk_at "go"
      refine s_isiK (Kd.dict h1) (b := false) (by decide +kernel) ?_
      walk_at "go"
      refine s_isiK (Kd.dict h1) (b := false) (by decide +kernel) ?_
      walk_at "go"
      refine s_isiK (Kd.dict h1) (b := true) (by decide +kernel) ?_
      walk_at "go"
      rename_i q1 H1 n1 e1 h3
      have ha := e1.get0 h1
      refine s_lockE ha fun od => ?_
      refine s_lc ?_
      refine s_iKeys ?_
      refine s_var rfl ?_
      refine ⟨a, od, rfl, .inl ⟨[], upd_same, ?_⟩⟩
      refine lc_none upd_same fun D hD => ?_
      have na : a ≠ D := fun z => by
        rw [z, upd_same] at hD
        cases hD
      have hD1 : H1 D = none := by
        rw [upd_ne (Ne.symm na)] at hD
        exact hD
      refine ⟨by rw [upd_ne na, upd_same], ?_⟩
      have e2 : Ex [] H1 (upd (upd (upd H1 a (.frz od (.dK []))) D (.lst [])) a (.dK [])) := lock_ex ha (Ex.new hD)
      have hDl : upd (upd (upd H1 a (.frz od (.dK []))) D (.lst [])) a (.dK []) D = some (.lst []) := by rw [upd_ne (Ne.symm na), upd_same]
      generalize upd (upd (upd H1 a (.frz od (.dK []))) D (.lst [])) a (.dK []) = H2 at e2 hDl ⊢
      walk_at "go"
      rename_i p H3 np e3 hp
      have fr : H p = none := e1.free (e2.free np)
      exact k p H3 fr ((e1.trans e2).trans e3) (Fr.le (n := 0 + 1 + 1) (by omega) (fr_partsX (g := fun e => e) (ds := []) plain_dict fr hp rfl (by simp)))
    · unfold t_law_faceX
      walk_at "go"
      refine s_isiK (Kd.dict h1) (b := false) (by decide +kernel) ?_
      walk_at "go"
      refine s_isiK (Kd.dict h1) (b := false) (by decide +kernel) ?_
      walk_at "go"
      refine s_isiK (Kd.dict h1) (b := true) (by decide +kernel) ?_
      walk_at "go"
      rename_i q1 H1 n1 e1 h3
      have ha := e1.get0 h1
      refine s_lockE ha fun od => ?_
      refine s_lc ?_
      refine s_iKeys ?_
      refine s_var rfl ?_
      refine ⟨a, od, rfl, .inl ⟨[(kA, y)], upd_same, ?_⟩⟩
      refine lc_one upd_same fun D hD C kC => ?_
      have na : a ≠ D := fun z => by
        rw [z, upd_same] at hD
        cases hD
      have hD1 : H1 D = none := by
        rw [upd_ne (Ne.symm na)] at hD
        exact hD
      have hDa : upd (upd H1 a (.frz od (.dK [(kA, y)]))) D (.lst []) a = some (.frz od (.dK [(kA, y)])) := by rw [upd_ne na, upd_same]
      have hDl : upd (upd H1 a (.frz od (.dK [(kA, y)]))) D (.lst []) D = some (.lst []) := upd_same
      have hy : Dd K (upd (upd H1 a (.frz od (.dK [(kA, y)]))) D (.lst [])) n y e0 := Dd.ex (Ex.new hD) _ _ _ (Dd.lock ha _ _ _ (Dd.ex e1 _ _ _ h2))
      have eF : Ex [] (upd H1 a (.frz od (.dK [(kA, y)]))) (upd (upd H1 a (.frz od (.dK [(kA, y)]))) D (.lst [])) := Ex.new hD
      generalize upd (upd H1 a (.frz od (.dK [(kA, y)]))) D (.lst []) = H2 at hDa hDl hy eF ⊢
      walk_at "go"
      refine u_faceX (d := dS [97]) (Dd.dx _ _ _ ?_) fun r1 H3 nr1 e3 f1 => ?_
      · cases n with
        | zero => exact .inr (.inr (.inr ⟨[97], plain_a, rfl, rfl⟩))
        | succ n => exact .inl (.inr (.inr (.inr ⟨[97], plain_a, rfl, rfl⟩)))
      walk_at "go"
      refine s_var rfl ?_
      refine s_var rfl ?_
      refine ⟨a, y, rfl, .inl ⟨[(kA, y)], kA, .inr ⟨od, e3.get0 hDa⟩, rfl, rfl⟩, ?_⟩
      walk_at "go"
      refine u_faceX (d := e0) (Dx.ex e3 _ _ _ (Dd.dx _ _ _ hy)) fun r2 H4 nr2 e4 f2 => ?_
      walk_at "go"
      rename_i r3 H5 nr3 e5 hr3
      have eD : Ex [] H2 H5 := (e3.trans e4).trans e5
      refine kC _ _ (eD.get0 hDl) (eD.get0 hDa) ?_
      have nD : H2 D ≠ none := by rw [hDl]; simp
      have n3 : r3 ≠ D := fun z => nD (z ▸ (e3.trans e4).free nr3)
      have e6 : Ex [] H1 (upd (upd H5 D (.lst [.ref r3])) a (.dK [(kA, y)])) := by
        refine lock_ex (f := .frz od (.dK [(kA, y)])) ha ?_
        intro b o nb hb
        rw [upd_ne (ne_of_none hb hD)]
        exact eD b o nb (eF b o nb hb)
      refine ⟨by rw [upd_ne na]; exact eD.get0 hDa, ?_⟩
      have nDa : D ≠ a := Ne.symm na
      have hD6 : upd (upd H5 D (.lst [.ref r3])) a (.dK [(kA, y)]) D = some (.lst [.ref r3]) := by rw [upd_ne nDa, upd_same]
      have keep : ∀ c zs, H2 c = none → H5 c = some (.lst zs) → upd (upd H5 D (.lst [.ref r3])) a (.dK [(kA, y)]) c = some (.lst zs) := fun c zs hc h5 => by
        have c1 : c ≠ a := fun z => by rw [z, hDa] at hc; cases hc
        have c2 : c ≠ D := fun z => nD (by rw [← z]; exact hc)
        rw [upd_ne c1, upd_ne c2]
        exact h5
      have h13 : ∀ c, H2 c = none → H c = none := fun c hc => by
        have h' := eF.free hc
        by_cases hca : c = a
        · rw [hca, upd_same] at h'
          cases h'
        · rw [upd_ne hca] at h'
          exact e1.free h'
      have hr3' := keep r3 _ ((e3.trans e4).free nr3) hr3
      have g1 := Fr.mono (F' := fun c => H2 c = none) (fun c h => h) (fun c zs hc h => keep c zs hc (e5.get0 (e4.get0 h))) _ _ _ f1
      have g2 := Fr.mono (F' := fun c => H2 c = none) (fun c h => e3.free h) (fun c zs hc h => keep c zs (e3.free hc) (e5.get0 h)) _ _ _ f2
      generalize upd (upd H5 D (.lst [.ref r3])) a (.dK [(kA, y)]) = H6 at e6 hD6 hr3' g1 g2 ⊢
      walk_at "go"
      rename_i p H7 np e7 hp
      have fr : H p = none := e1.free (e6.free np)
      refine k p H7 fr ((e1.trans e6).trans e7) ?_
      refine fr_partsX (m := 2 * n + 1) (g := fun z => z) (ds := [.list [faceX n (dS [97]), faceX n e0]]) plain_dict fr hp rfl fun i z w h5 h6 => ?_
      match i, h5, h6 with
      | 0, h5, h6 =>
        cases h5; cases h6
        refine .inr ⟨r3, _, _, rfl, rfl, h13 _ ((e3.trans e4).free nr3), e7.get0 hr3', rfl, fun j z w h8 h9 => ?_⟩
        match j, h8, h9 with
        | 0, h8, h9 => cases h8; cases h9; exact Fr.mono (fun c h => h13 c h) (fun c zs _ h => e7.get0 h) _ _ _ g1
        | 1, h8, h9 => cases h8; cases h9; exact Fr.mono (fun c h => h13 c h) (fun c zs _ h => e7.get0 h) _ _ _ g2
end
end WB
namespace WB
open PySem PySem.Spec PyProof.Rows L2
theorem lit_97 : ("a" : Str) = S [97] := by decide +kernel
theorem lit_97_98 : ("ab" : Str) = S [97, 98] := by decide +kernel
theorem lit_65 : ("A" : Str) = S [65] := by decide +kernel
theorem lit_97_32_98 : ("a b" : Str) = S [97, 32, 98] := by decide +kernel
theorem lit_97_97 : ("aa" : Str) = S [97, 97] := by decide +kernel
theorem lit_97_10 : ("a\n" : Str) = S [97, 10] := by decide +kernel
theorem lit_97_98_99_100_101 : ("abcde" : Str) = S [97, 98, 99, 100, 101] := by decide +kernel
local macro_rules | `(tactic| walk_at "lit") => `(tactic| first | exact lit_97 | exact lit_97_98 | exact lit_65 | exact lit_97_32_98 | exact lit_97_97 | exact lit_97_10 | exact lit_97_98_99_100_101)
local macro_rules | `(tactic| walk_at "lit") => `(tactic| first | exact lit_abc | exact lit_empty)
local macro_rules | `(tactic| walk_at "nm") => `(tactic| focus first | exact List.not_mem_nil | (simp only [List.mem_singleton]; first | assumption | (exact Ne.symm (by assumption)) | (intro hz; subst hz; simp_all; done)))
local macro_rules | `(tactic| walk_at "hp") => `(tactic| first | assumption | (apply Ex.get0 (by assumption); walk_at "hp") | (apply Ex.get (by assumption); (walk_at "nm"); (walk_at "hp")))
local macro_rules | `(tactic| walk_at "sq") => `(tactic| first | assumption | (apply SqL.of; walk_at "hp") | (apply Ex.sqL (by assumption); (walk_at "nm"); (walk_at "sq")))
local macro_rules | `(tactic| walk_at "sqt") => `(tactic| first | assumption | (apply SqT.of; walk_at "hp") | (apply Ex.sqT (by assumption); (walk_at "nm"); (walk_at "sqt")))
local macro_rules | `(tactic| walk_at "sz") => `(tactic| focus ((with_reducible refine Nat.le_trans (m := 100000) ?_ (by decide)); first | omega | (simp; done) | (simp; omega)))
local macro_rules | `(tactic| walk_at "mul") => `(tactic| first | exact Or.inr ⟨by omega, by omega⟩ | exact Or.inl ⟨by omega, by omega⟩)
local macro_rules | `(tactic| walk_at "pool") => `(tactic| first | assumption | (apply PoolAt.ex (by assumption); (walk_at "nm"); (walk_at "pool")))
local macro_rules | `(tactic| walk_at "ring") => `(tactic| first | assumption | (apply RingAt.ex (by assumption); (walk_at "nm"); (walk_at "ring")))
local macro_rules | `(tactic| walk_at "st") => `(tactic| first
  | with_reducible refine s_seq ?_
  | with_reducible refine s_asg ?_
  | with_reducible refine s_gName ?_
  | with_reducible refine s_ret ?_
  | with_reducible refine s_ifS ?_
  | with_reducible refine s_next ?_
  | with_reducible refine s_op ?_
  | ((with_reducible apply s_var); exact rfl)
  | ((with_reducible apply s_cS); (walk_at "lit"))
  | with_reducible refine s_c ?_
  | with_reducible refine s_cb ?_
  | with_reducible refine s_cons ?_
  | with_reducible refine s_nil ?_
  | with_reducible refine s_un ?_
  | with_reducible refine s_call ?_
  | with_reducible refine s_test ?_
  | with_reducible refine s_tB ?_
  | with_reducible refine s_blQ ?_
  | with_reducible refine s_not ?_
  | with_reducible refine s_and ?_
  | with_reducible refine s_or ?_
  | with_reducible refine s_andV ?_
  | with_reducible refine s_orV ?_
  | with_reducible refine s_notV ?_
  | with_reducible refine s_ifE ?_
  | with_reducible refine s_chain ?_
  | ((with_reducible refine s_T ?_ ?_); (with_reducible exact rfl))
  | with_reducible refine s_nT ?_
  | with_reducible refine s_nF ?_
  | ((with_reducible refine s_F ?_ ?_); (with_reducible exact rfl))
  | ((with_reducible refine s_T ?_ ?_); assumption)
  | ((with_reducible refine s_F ?_ ?_); assumption)
  | ((with_reducible refine s_nB ?_ ?_); assumption)
  | ((with_reducible refine s_nA ?_ ?_); assumption)
  | ((with_reducible refine s_Td ?_ ?_); omega)
  | ((with_reducible refine s_Fd ?_ ?_); omega)
  | ((with_reducible refine s_nTd ?_ ?_); omega)
  | ((with_reducible refine s_nFd ?_ ?_); omega)
  | with_reducible refine s_sfld ?_
  | with_reducible refine s_addI ?_
  | with_reducible refine s_subI ?_
  | ((with_reducible refine s_mulI ?_ ?_); (walk_at "mul"))
  | ((with_reducible refine s_divI ?_ ?_); exact ⟨by omega, by omega⟩)
  | ((with_reducible refine s_modI ?_ ?_); omega)
  | ((with_reducible refine s_powI ?_ ?_); exact ⟨by decide, by decide, by decide⟩)
  | with_reducible refine s_ltI ?_
  | with_reducible refine s_leI ?_
  | with_reducible refine s_gtI ?_
  | with_reducible refine s_geI ?_
  | with_reducible refine s_negI ?_
  | with_reducible refine s_absI ?_
  | with_reducible refine s_intI ?_
  | with_reducible refine s_min2 ?_
  | with_reducible refine s_max2 ?_
  | with_reducible refine s_eqI ?_
  | with_reducible refine s_neI ?_
  | with_reducible refine s_eqS ?_
  | with_reducible refine s_neS ?_
  | with_reducible refine s_inSg ?_
  | with_reducible refine s_notInSg ?_
  | ((with_reducible refine s_addS ?_ ?_); (walk_at "sz"))
  | ((with_reducible refine s_lenS ?_ ?_); (walk_at "sz"))
  | ((with_reducible apply s_lenL); (walk_at "sq"))
  | ((with_reducible apply s_lenT); (walk_at "sqt"))
  | ((with_reducible apply s_ixL); (walk_at "sq"); exact rfl)
  | ((with_reducible apply s_ixT); (walk_at "sqt"); exact rfl)
  | with_reducible refine s_gSub ?_
  | ((with_reducible apply s_setL); (walk_at "hp"); (exact rfl); (intro _ _ _))
  | ((with_reducible refine s_alloc ?_ ?_); (walk_at "sz"); (intro _ _ _ _ _))
  | ((with_reducible refine s_divmod ?_ ?_); (exact ⟨by omega, PyProof.noPylong_small (by omega)⟩); (intro _ _ _ _ _))
  | ((with_reducible apply s_gTup); (walk_at "sqt"); (exact rfl))
  | ((with_reducible apply s_gLst); (walk_at "sq"); (exact rfl))
  | with_reducible refine s_gCons ?_
  | with_reducible refine s_gNil ?_
  | with_reducible refine s_lc ?_
  | ((with_reducible apply s_cat); (walk_at "hp"); (walk_at "hp"); (walk_at "sz"); (intro _ _ _ _ _))
  | ((with_reducible apply s_slL); (walk_at "sq"); (intro _ _ _ _ _))
  | with_reducible refine s_for ?_
  | with_reducible refine s_rng1 ?_
  | ((with_reducible refine s_rng1i ?_ ?_); (constructor <;> omega))
  | with_reducible refine s_rng2 ?_
  | ((with_reducible refine s_rng2i ?_ ?_); (refine ⟨?_, ?_, ?_, ?_⟩ <;> omega))
  | with_reducible refine s_iStr ?_
  | with_reducible refine s_iStrS ?_
  | with_reducible refine s_iList ?_
  | ((with_reducible apply s_iListA); (walk_at "sq"))
  | with_reducible refine s_iTup ?_
  | ((with_reducible apply s_iTupA); (walk_at "sqt"))
  | with_reducible refine s_sl ?_
  | with_reducible refine s_noPart ?_
  | with_reducible refine s_part ?_
  | with_reducible refine s_int1 ?_
  | ((with_reducible refine s_slS ?_ ?_); (walk_at "sz"))
  | with_reducible refine s_tup ?_
  | with_reducible refine s_lst ?_
  | with_reducible refine s_par ?_
  | with_reducible refine s_pair ?_
  | with_reducible refine s_M1 ?_
  | with_reducible refine s_isStr ?_
  | with_reducible refine s_revS ?_
  | ((with_reducible refine s_revS1 ?_ ?_); (walk_at "sz"))
  | with_reducible refine s_fldE ?_
  | with_reducible refine s_propE ?_
  | ((with_reducible refine u_draw ?_ ?_ ?_ ?_); omega; omega; (walk_at "pool"); (intro _ _ _ _ _ _))
  | ((with_reducible refine u_pool ?_); (intro _ _ _ _ _))
  | with_reducible refine u_is_integer ?_
  | with_reducible refine s_isiII ?_
  | with_reducible refine s_isiIB ?_
  | with_reducible refine s_isiSS ?_
  | ((with_reducible apply u_fldRing); assumption; (walk_at "ring"))
  | ((with_reducible apply u_textP); (walk_at "ring"))
  | ((with_reducible apply u_strRing); (walk_at "ring"))
  | ((with_reducible apply u_eqRing); (walk_at "ring"); (walk_at "ring"))
  | ((with_reducible apply u_isiRing); assumption; (walk_at "ring"))
  | ((with_reducible refine u_is_word ?_ ?_); omega; (intro _ _))
  | ((with_reducible refine u_turnings ?_ ?_); omega; (intro _ _ _ _ _))
  | with_reducible refine s_makeE ?_
  | with_reducible refine s_methE ?_)
local macro_rules | `(tactic| walk_at "go") => `(tactic| repeat (walk_at "st"))
local macro_rules | `(tactic| walk_at "exs") => `(tactic| first | exact Ex.rfl | assumption | (apply Ex.snoc (by assumption); walk_at "exs") | (apply Ex.snocW (by assumption); walk_at "exs"))
local macro_rules | `(tactic| walk_at "odd") => `(tactic| first | assumption | (apply OddAt.ex (by assumption); (walk_at "odd")))
local macro_rules | `(tactic| walk_at "st") => `(tactic| first
  | with_reducible refine s_inStr ?_
  | with_reducible refine s_pairs1 ?_
  | ((with_reducible refine s_dnew ?_); (intro _ _ _ _ _)))
def t_law_odd (K : PySem.W.Frag) : TS :=
  (tSeq (tAsg (tCall (sp_law_draw K) [] E0 (tCons (tVar 0) (tCons (tC (.int 27)) tNil))) (gName 1))
  (tSeq (tIfS (tTest (tOp rLtI (tVar 1) (tC (.int 11)))) (tRet (tOp (rIxL K) (tLst (tCons (tC .non) (tCons (tC (.bl true)) (tCons (tC (.bl false)) (tCons (tC (.int 0)) (tCons (tC (.int 1)) (tCons (tUn rNegI (tC (.int 1))) (tCons (tC (.int 2)) (tCons (tC (.int 7)) (tCons (tC (.int 600)) (tCons (tOp rPowI (tC (.int 10)) (tC (.int 38))) (tCons (tUn rNegI (tOp rPowI (tC (.int 10)) (tC (.int 38)))) tNil)))))))))))) (tVar 1))) tNext)
  (tSeq (tIfS (tTest (tOp rLtI (tVar 1) (tC (.int 19)))) (tRet (tOp (rIxL K) (tLst (tCons (tC (.str "")) (tCons (tC (.str "a")) (tCons (tC (.str "ab")) (tCons (tC (.str "A")) (tCons (tC (.str "a b")) (tCons (tC (.str "aa")) (tCons (tC (.str "a\n")) (tCons (tC (.str "abcde")) tNil))))))))) (tOp rSubI (tVar 1) (tC (.int 11))))) tNext)
  (tSeq (tIfS (tTest (tOp rLtI (tVar 1) (tC (.int 23)))) (tRet (tOp (rIxL K) (tLst (tCons (tLst tNil) (tCons (tLst (tCons (tC (.str "a")) tNil)) (tCons tDNewK (tCons (tDisp [((tC (.str "a")), (tC (.int 1)))]) tNil))))) (tOp rSubI (tVar 1) (tC (.int 19))))) tNext)
  (tRet (tOp (rIxL K) (tLst (tCons (tTup tNil) (tCons (tTup (tCons (tC (.str "a")) tNil)) (tCons (tTup (tCons (tC (.int 0)) (tCons (tC (.int 1)) tNil))) (tCons (tTup (tCons (tLst tNil) (tCons (tDisp [((tC (.str "a")), (tTup (tCons (tC (.int 1)) (tCons (tLst tNil) tNil))))]) tNil))) tNil))))) (tOp rSubI (tVar 1) (tC (.int 23)))))))))
section
variable {K : PySem.W.Frag} {vs : List V} {H : Hp} {Q : VK} {E : XK}
theorem pure_law_odd (h : sp_law_odd K vs H Q E) : t_law_odd K (E1 Q) (start ["_law_pool_here", "_law_way"] vs) H := by
  obtain ⟨a, rfl, hp, k⟩ := h
  show t_law_odd K (E1 Q) [some (.ref a), none] H
  unfold t_law_odd
  walk_at "go"
  rename_i w H1 w0 w1 e1 p1
  have na : ∀ {p : Addr}, H1 p = none → p ∉ [a] := fun {p} hn hm => p1.there (by rw [← List.mem_singleton.mp hm]; exact hn)
  refine s_2 (fun hb => ?_) (fun hb => ?_)
  · have hb := of_decide_eq_true hb
    walk_at "go"
    rename_i p H2 hn e2 h2
    have p2 : PoolAt H2 a := by walk_at "pool"
    have e12 : Ex [a] H H2 := by walk_at "exs"
    rcases (show w = 0 ∨ w = 1 ∨ w = 2 ∨ w = 3 ∨ w = 4 ∨ w = 5 ∨ w = 6 ∨ w = 7 ∨ w = 8 ∨ w = 9 ∨ w = 10 by omega) with rfl | rfl | rfl | rfl | rfl | rfl | rfl | rfl | rfl | rfl | rfl
    · exact s_ixL (SqL.of h2) rfl (k _ _ e12 p2 .non)
    · exact s_ixL (SqL.of h2) rfl (k _ _ e12 p2 (.bl _))
    · exact s_ixL (SqL.of h2) rfl (k _ _ e12 p2 (.bl _))
    all_goals exact s_ixL (SqL.of h2) rfl (k _ _ e12 p2 (.int _ (by decide +kernel)))
  walk_at "go"
  have hb := of_decide_eq_false hb
  refine s_2 (fun hb2 => ?_) (fun hb2 => ?_)
  · have hb2 := of_decide_eq_true hb2
    walk_at "go"
    rename_i p H2 hn e2 h2
    have p2 : PoolAt H2 a := by walk_at "pool"
    have e12 : Ex [a] H H2 := by walk_at "exs"
    rcases (show w = 11 ∨ w = 12 ∨ w = 13 ∨ w = 14 ∨ w = 15 ∨ w = 16 ∨ w = 17 ∨ w = 18 by omega) with rfl | rfl | rfl | rfl | rfl | rfl | rfl | rfl
    all_goals exact s_ixL (SqL.of h2) rfl (k _ _ e12 p2 (.str _ (by decide)))
  walk_at "go"
  have hb2 := of_decide_eq_false hb2
  refine s_2 (fun hb3 => ?_) (fun hb3 => ?_)
  · have hb3 := of_decide_eq_true hb3
    walk_at "go"
    rename_i q1 H2 n2 e2 h2 q2 H3 n3 e3 h3 q3 H4 n4 e4 h4
    refine s_disp1 (z := kA) (v := .int 1) (fun _ _ _ _ _ R kk => ?_) fun q4 H5 n5 e5 h5 => ?_
    · walk_at "go"
      exact kk _ Ex.rfl
    walk_at "go"
    rename_i p H6 n6 e6 h6
    have p6 : PoolAt H6 a := by walk_at "pool"
    have e12 : Ex [a] H H6 := by walk_at "exs"
    rcases (show w = 19 ∨ w = 20 ∨ w = 21 ∨ w = 22 by omega) with rfl | rfl | rfl | rfl
    · exact s_ixL (SqL.of h6) rfl (k _ _ e12 p6 (.l0 (na n2) (by walk_at "hp")))
    · exact s_ixL (SqL.of h6) rfl (k _ _ e12 p6 (.l1 (na (e2.free n3)) (by walk_at "hp")))
    · exact s_ixL (SqL.of h6) rfl (k _ _ e12 p6 (.d0 (na (e2.free (e3.free n4))) (by walk_at "hp")))
    · exact s_ixL (SqL.of h6) rfl (k _ _ e12 p6 (.d1 (na (e2.free (e3.free (e4.free n5)))) (by walk_at "hp")))
  · have hb3 := of_decide_eq_false hb3
    walk_at "go"
    rename_i q1 H2 n2 e2 h2 q2 H3 n3 e3 h3 q3 H4 n4 e4 h4 q4 H5 n5 e5 h5
    intro c hc
    walk_at "go"
    rename_i q5 H6 n6 e6 h6 q6 H7 n7 e7 h7
    have e5c : Ex [] H5 (upd H5 c (.dK [])) := Ex.new hc
    have hcc : (upd H5 c (.dK [])) c = some (.dK []) := upd_same
    have hc7 : H7 c = some (.dK []) := by walk_at "hp"
    refine ⟨hc7, [(kA, .ref q6)], rfl, by simp, ?_⟩
    rw [show mergeK [] [(kA, V.ref q6)] = [(kA, V.ref q6)] from rfl]
    have e7c : Ex [c] H7 (upd H7 c (.dK [(kA, .ref q6)])) := Ex.put (by simp)
    have hc8 : (upd H7 c (.dK [(kA, .ref q6)])) c = some (.dK [(kA, .ref q6)]) := upd_same
    have g : ∀ {H8 : Hp}, H8 = upd H7 c (.dK [(kA, .ref q6)]) → Ex [] H5 H8 := fun {H8} ez b o _ hb => by
      rw [ez, upd_ne (ne_of_none hb hc)]
      exact e7 b o (by simp) (e6 b o (by simp) (e5c b o (by simp) hb))
    have n6' : H5 q5 = none := e5c.free n6
    have n7' : H5 q6 = none := e5c.free (e6.free n7)
    have ne1 : q5 ≠ c := fun z => by rw [z, hcc] at n6; cases n6
    have ne2 : q6 ≠ c := fun z => by rw [z, e6 c _ (by simp) hcc] at n7; cases n7
    have h6' : (upd H7 c (.dK [(kA, .ref q6)])) q5 = some (.lst []) := by rw [upd_ne ne1]; exact e7 _ _ (by simp) h6
    have h7' : (upd H7 c (.dK [(kA, .ref q6)])) q6 = some (.tup [.int 1, .ref q5]) := by rw [upd_ne ne2]; exact h7
    have e58 := g rfl
    revert h6' h7' e58 hc8
    generalize upd H7 c (.dK [(kA, .ref q6)]) = H8
    intro hc8 h6' h7' e58
    clear g e7c hc7 e5c hcc
    walk_at "go"
    rename_i q7 H9 n9 e9 h9 p Ha na' ea ha
    have pa : PoolAt Ha a := by
      have p5 : PoolAt H5 a := by walk_at "pool"
      have p8 : PoolAt H8 a := PoolAt.ex e58 (by simp) p5
      walk_at "pool"
    have e12 : Ex [a] H Ha := by
      have e15 : Ex [a] H H5 := by walk_at "exs"
      have e18 : Ex [a] H H8 := e15.trans e58.wide
      walk_at "exs"
    have f15 : ∀ {p : Addr}, H5 p = none → H1 p = none := fun {p} z => e2.free (e3.free (e4.free (e5.free z)))
    rcases (show w = 23 ∨ w = 24 ∨ w = 25 ∨ w = 26 by omega) with rfl | rfl | rfl | rfl
    · exact s_ixL (SqL.of ha) rfl (k _ _ e12 pa (.t0 (na n2) (ea.get0 (e9.get0 (e58.get0 (by walk_at "hp"))))))
    · exact s_ixL (SqL.of ha) rfl (k _ _ e12 pa (.t1 (na (e2.free n3)) (ea.get0 (e9.get0 (e58.get0 (by walk_at "hp"))))))
    · exact s_ixL (SqL.of ha) rfl (k _ _ e12 pa (.t2 (na (e2.free (e3.free n4))) (ea.get0 (e9.get0 (e58.get0 (by walk_at "hp"))))))
    · exact s_ixL (SqL.of ha) rfl (k _ _ e12 pa (.t3 (na (f15 (e58.free n9))) (na (e2.free (e3.free (e4.free n5)))) (na (f15 hc)) (na (f15 n7')) (na (f15 n6')) (ea.get0 h9) (ea.get0 (e9.get0 (e58.get0 h5))) (ea.get0 (e9.get0 hc8)) (ea.get0 (e9.get0 h7')) (ea.get0 (e9.get0 h6'))))
end
end WB
namespace WB
open PySem PySem.Spec PyProof.Rows L2
local macro_rules | `(tactic| walk_at "lit") => `(tactic| first | exact lit_abc | exact lit_empty)
local macro_rules | `(tactic| walk_at "nm") => `(tactic| focus first | exact List.not_mem_nil | (simp only [List.mem_singleton]; first | assumption | (exact Ne.symm (by assumption)) | (intro hz; subst hz; simp_all; done)))
local macro_rules | `(tactic| walk_at "hp") => `(tactic| first | assumption | (apply Ex.get0 (by assumption); walk_at "hp") | (apply Ex.get (by assumption); (walk_at "nm"); (walk_at "hp")))
local macro_rules | `(tactic| walk_at "sq") => `(tactic| first | assumption | (apply SqL.of; walk_at "hp") | (apply Ex.sqL (by assumption); (walk_at "nm"); (walk_at "sq")))
local macro_rules | `(tactic| walk_at "sqt") => `(tactic| first | assumption | (apply SqT.of; walk_at "hp") | (apply Ex.sqT (by assumption); (walk_at "nm"); (walk_at "sqt")))
local macro_rules | `(tactic| walk_at "sz") => `(tactic| focus ((with_reducible refine Nat.le_trans (m := 100000) ?_ (by decide)); first | omega | (simp; done) | (simp; omega)))
local macro_rules | `(tactic| walk_at "mul") => `(tactic| first | exact Or.inr ⟨by omega, by omega⟩ | exact Or.inl ⟨by omega, by omega⟩)
local macro_rules | `(tactic| walk_at "pool") => `(tactic| first | assumption | (apply PoolAt.ex (by assumption); (walk_at "nm"); (walk_at "pool")))
local macro_rules | `(tactic| walk_at "ring") => `(tactic| first | assumption | (apply RingAt.ex (by assumption); (walk_at "nm"); (walk_at "ring")))
local macro_rules | `(tactic| walk_at "st") => `(tactic| first
  | with_reducible refine s_seq ?_
  | with_reducible refine s_asg ?_
  | with_reducible refine s_gName ?_
  | with_reducible refine s_ret ?_
  | with_reducible refine s_ifS ?_
  | with_reducible refine s_next ?_
  | with_reducible refine s_op ?_
  | ((with_reducible apply s_var); exact rfl)
  | ((with_reducible apply s_cS); (walk_at "lit"))
  | with_reducible refine s_c ?_
  | with_reducible refine s_cb ?_
  | with_reducible refine s_cons ?_
  | with_reducible refine s_nil ?_
  | with_reducible refine s_un ?_
  | with_reducible refine s_call ?_
  | with_reducible refine s_test ?_
  | with_reducible refine s_tB ?_
  | with_reducible refine s_blQ ?_
  | with_reducible refine s_not ?_
  | with_reducible refine s_and ?_
  | with_reducible refine s_or ?_
  | with_reducible refine s_andV ?_
  | with_reducible refine s_orV ?_
  | with_reducible refine s_notV ?_
  | with_reducible refine s_ifE ?_
  | with_reducible refine s_chain ?_
  | ((with_reducible refine s_T ?_ ?_); (with_reducible exact rfl))
  | with_reducible refine s_nT ?_
  | with_reducible refine s_nF ?_
  | ((with_reducible refine s_F ?_ ?_); (with_reducible exact rfl))
  | ((with_reducible refine s_T ?_ ?_); assumption)
  | ((with_reducible refine s_F ?_ ?_); assumption)
  | ((with_reducible refine s_nB ?_ ?_); assumption)
  | ((with_reducible refine s_nA ?_ ?_); assumption)
  | ((with_reducible refine s_Td ?_ ?_); omega)
  | ((with_reducible refine s_Fd ?_ ?_); omega)
  | ((with_reducible refine s_nTd ?_ ?_); omega)
  | ((with_reducible refine s_nFd ?_ ?_); omega)
  | with_reducible refine s_sfld ?_
  | with_reducible refine s_addI ?_
  | with_reducible refine s_subI ?_
  | ((with_reducible refine s_mulI ?_ ?_); (walk_at "mul"))
  | ((with_reducible refine s_divI ?_ ?_); exact ⟨by omega, by omega⟩)
  | ((with_reducible refine s_modI ?_ ?_); omega)
  | ((with_reducible refine s_powI ?_ ?_); exact ⟨by decide, by decide, by decide⟩)
  | with_reducible refine s_ltI ?_
  | with_reducible refine s_leI ?_
  | with_reducible refine s_gtI ?_
  | with_reducible refine s_geI ?_
  | with_reducible refine s_negI ?_
  | with_reducible refine s_absI ?_
  | with_reducible refine s_intI ?_
  | with_reducible refine s_min2 ?_
  | with_reducible refine s_max2 ?_
  | with_reducible refine s_eqI ?_
  | with_reducible refine s_neI ?_
  | with_reducible refine s_eqS ?_
  | with_reducible refine s_neS ?_
  | with_reducible refine s_inSg ?_
  | with_reducible refine s_notInSg ?_
  | ((with_reducible refine s_addS ?_ ?_); (walk_at "sz"))
  | ((with_reducible refine s_lenS ?_ ?_); (walk_at "sz"))
  | ((with_reducible apply s_lenL); (walk_at "sq"))
  | ((with_reducible apply s_lenT); (walk_at "sqt"))
  | ((with_reducible apply s_ixL); (walk_at "sq"); exact rfl)
  | ((with_reducible apply s_ixT); (walk_at "sqt"); exact rfl)
  | with_reducible refine s_gSub ?_
  | ((with_reducible apply s_setL); (walk_at "hp"); (exact rfl); (intro _ _ _))
  | ((with_reducible refine s_alloc ?_ ?_); (walk_at "sz"); (intro _ _ _ _ _))
  | ((with_reducible refine s_divmod ?_ ?_); (exact ⟨by omega, PyProof.noPylong_small (by omega)⟩); (intro _ _ _ _ _))
  | ((with_reducible apply s_gTup); (walk_at "sqt"); (exact rfl))
  | ((with_reducible apply s_gLst); (walk_at "sq"); (exact rfl))
  | with_reducible refine s_gCons ?_
  | with_reducible refine s_gNil ?_
  | with_reducible refine s_lc ?_
  | ((with_reducible apply s_cat); (walk_at "hp"); (walk_at "hp"); (walk_at "sz"); (intro _ _ _ _ _))
  | ((with_reducible apply s_slL); (walk_at "sq"); (intro _ _ _ _ _))
  | with_reducible refine s_for ?_
  | with_reducible refine s_rng1 ?_
  | ((with_reducible refine s_rng1i ?_ ?_); (constructor <;> omega))
  | with_reducible refine s_rng2 ?_
  | ((with_reducible refine s_rng2i ?_ ?_); (refine ⟨?_, ?_, ?_, ?_⟩ <;> omega))
  | with_reducible refine s_iStr ?_
  | with_reducible refine s_iStrS ?_
  | with_reducible refine s_iList ?_
  | ((with_reducible apply s_iListA); (walk_at "sq"))
  | with_reducible refine s_iTup ?_
  | ((with_reducible apply s_iTupA); (walk_at "sqt"))
  | with_reducible refine s_sl ?_
  | with_reducible refine s_noPart ?_
  | with_reducible refine s_part ?_
  | with_reducible refine s_int1 ?_
  | ((with_reducible refine s_slS ?_ ?_); (walk_at "sz"))
  | with_reducible refine s_tup ?_
  | with_reducible refine s_lst ?_
  | with_reducible refine s_par ?_
  | with_reducible refine s_pair ?_
  | with_reducible refine s_M1 ?_
  | with_reducible refine s_isStr ?_
  | with_reducible refine s_revS ?_
  | ((with_reducible refine s_revS1 ?_ ?_); (walk_at "sz"))
  | with_reducible refine s_fldE ?_
  | with_reducible refine s_propE ?_
  | ((with_reducible refine u_draw ?_ ?_ ?_ ?_); omega; omega; (walk_at "pool"); (intro _ _ _ _ _ _))
  | ((with_reducible refine u_pool ?_); (intro _ _ _ _ _))
  | with_reducible refine u_is_integer ?_
  | with_reducible refine s_isiII ?_
  | with_reducible refine s_isiIB ?_
  | with_reducible refine s_isiSS ?_
  | ((with_reducible apply u_fldRing); assumption; (walk_at "ring"))
  | ((with_reducible apply u_textP); (walk_at "ring"))
  | ((with_reducible apply u_strRing); (walk_at "ring"))
  | ((with_reducible apply u_eqRing); (walk_at "ring"); (walk_at "ring"))
  | ((with_reducible apply u_isiRing); assumption; (walk_at "ring"))
  | ((with_reducible refine u_is_word ?_ ?_); omega; (intro _ _))
  | ((with_reducible refine u_turnings ?_ ?_); omega; (intro _ _ _ _ _))
  | with_reducible refine s_makeE ?_
  | with_reducible refine s_methE ?_)
local macro_rules | `(tactic| walk_at "go") => `(tactic| repeat (walk_at "st"))
local macro_rules | `(tactic| walk_at "exs") => `(tactic| first | exact Ex.rfl | assumption | (apply Ex.snoc (by assumption); walk_at "exs") | (apply Ex.snocW (by assumption); walk_at "exs"))
def t_law_wholeK (K : PySem.W.Frag) : TS :=
  (tRet (tAndV (tCB (rIsi K) (tCons (tVar 0) (tCons (tC (.ty "int")) tNil))) (tNotV (tCB (rIsi K) (tCons (tVar 0) (tCons (tC (.ty "bool")) tNil))))))
def t_law_error_right (K : PySem.W.Frag) : TS :=
  (tSeq (tIfS (tTest (tOp (rNeD K) (tCall (sp_law_sorts K) [] E0 (tCons (tVar 0) tNil)) (tLc (iRng1 (tCons (tC (.int 24)) tNil)) (gName 3) tYes (tOp rEq (tVar 3) (tVar 1)) [3]))) (tRet (tC (.bl false))) tNext)
  (tSeq (tAsg (tLst (tCons (tCB (rIsV K) (tCons (tVar 0) (tCons (tC (.ref (He.ga K "WrongValue"))) tNil))) (tCons (tCB (rIsV K) (tCons (tVar 0) (tCons (tC (.ref (He.ga K "WrongName"))) tNil))) (tCons (tCB (rIsV K) (tCons (tVar 0) (tCons (tC (.ref (He.ga K "NoAnswer"))) tNil))) tNil)))) (gName 4))
  (tSeq (tAsg (tLst (tCons (tCB (rIsV K) (tCons (tVar 0) (tCons (tC (.ty "ValueError")) tNil))) (tCons (tCB (rIsV K) (tCons (tVar 0) (tCons (tC (.ty "LookupError")) tNil))) (tCons (tCB (rIsV K) (tCons (tVar 0) (tCons (tC (.ty "ArithmeticError")) tNil))) tNil)))) (gName 5))
  (tSeq (tAsg (tLst (tCons (tOp rLtI (tVar 1) (tC (.int 18))) (tCons (tOp (rIn K false) (tVar 1) (tLst (tCons (tC (.int 18)) (tCons (tC (.int 19)) tNil)))) (tCons (tOp rGtI (tVar 1) (tC (.int 19))) tNil)))) (gName 6))
  (tSeq (tAsg (tCall (sp_law_kept K) [] E0 (tCons (tVar 0) (tCons (tVar 1) tNil))) (gName 7))
  (tRet (tAndV (tOp (rEqD K) (tVar 4) (tVar 6)) (tAndV (tOp (rEqD K) (tVar 5) (tVar 6)) (tCB (rAll K) (tCons (tLc (iList K (tVar 7)) (gName 8) tYes (tOp (rEqD K) (tCall (sp_law_faceX K 6) [] E0 (tCons (tVar 8) tNil)) (tCall (sp_law_faceX K 6) [] E0 (tCons (tVar 2) tNil))) [8]) tNil))))))))))
def t_law_right01 (K : PySem.W.Frag) : TS :=
  (tSeq (tPar 1 2 (tCons (tCall (sp_law_odd K) [] E0 (tCons (tVar 0) tNil)) (tCons (tCall (sp_law_odd K) [] E0 (tCons (tVar 0) tNil)) tNil)))
  (tSeq (tPar 3 4 (tCons (tCall (sp_law_by_place K) [] E0 (tCons (tVar 1) tNil)) (tCons (tCall (sp_law_by_name K) [] E0 (tCons (tVar 2) tNil)) tNil)))
  (tSeq (tFor (iRng1 (tCons (tC (.int 24)) tNil)) (gName 5) (tIfS (tOr (tNot (tB (tCall (sp_law_error_right K) [] E0 (tCons (tOp (rIxL K) (tVar 3) (tVar 5)) (tCons (tVar 5) (tCons (tVar 1) tNil)))))) (tNot (tB (tCall (sp_law_error_right K) [] E0 (tCons (tOp (rIxL K) (tVar 4) (tVar 5)) (tCons (tVar 5) (tCons (tVar 2) tNil))))))) (tRet (tC (.bl false))) tNext))
  (tRet (tC (.bl true))))))
def t_law (K : PySem.W.Frag) : TS :=
  (tSeq (tIfS (tTest (tOp (rNeD K) (tCall (sp_law_constants K) [] E0 tNil) (tLst (tCons (tC (.int 4)) (tCons (tC (.int 6)) (tCons (tC (.int 600)) (tCons (tC (.int 600)) (tCons (tC (.int 99)) (tCons (tC (.int 30)) (tCons (tC (.int 9)) (tCons (tC (.int 6)) (tCons (tC (.int 9)) (tCons (tC (.int 9)) tNil))))))))))))) (tRet (tC (.bl false))) tNext)
  (tSeq (tIfS (tNot (tB (tCB (rAll K) (tCons (tLc (iList K (tCall (sp_law_constants K) [] E0 tNil)) (gName 1) tYes (tCall (sp_law_wholeK K) [] E0 (tCons (tVar 1) tNil)) [1]) tNil)))) (tRet (tC (.bl false))) tNext)
  (tRet (tCB (rAll K) (tCons (tLc (iRng1 (tCons (tCB rMax2 (tCons (tC (.int 2)) (tCons (tCB rMin2 (tCons (tCB (rLenV K) (tCons (tVar 0) tNil)) (tCons (tC (.int 6)) tNil))) tNil))) tNil)) (gName 2) tYes (tCall (sp_law_right01 K) [] E0 (tCons (tCall (sp_law_pool K) [] E0 (tCons (tCall (sp_law_cell K) [] E0 (tCons (tVar 0) (tCons (tVar 2) tNil))) tNil)) tNil)) [2]) tNil)))))
section
variable {K : PySem.W.Frag} {vs : List V} {H : Hp} {Q : VK} {E : XK} {a : Addr} {i : Nat} {fs : List (Str × V)} {v : V} {σ : L2.St}
theorem gr_due (hi : i < 24) : [decide (0 = gr01 i), decide (1 = gr01 i), decide (2 = gr01 i)] = [decide ((i : Int) < 18), decide ((i : Int) ∈ ([18, 19] : List Int)), decide ((i : Int) > 19)] := by
  unfold gr01
  by_cases h1 : i < 18
  · rw [if_pos h1]
    have e1 : ((i : Int) < 18) := by omega
    have e2 : ¬ ((i : Int) ∈ ([18, 19] : List Int)) := by simp; omega
    have e3 : ¬ ((i : Int) > 19) := by omega
    rw [decide_eq_true e1, decide_eq_false e2, decide_eq_false e3]
    rfl
  · rw [if_neg h1]
    have e1 : ¬ ((i : Int) < 18) := by omega
    by_cases h2 : i < 20
    · rw [if_pos h2]
      have e2 : ((i : Int) ∈ ([18, 19] : List Int)) := by simp; omega
      have e3 : ¬ ((i : Int) > 19) := by omega
      rw [decide_eq_false e1, decide_eq_true e2, decide_eq_false e3]
      rfl
    · rw [if_neg h2]
      have e2 : ¬ ((i : Int) ∈ ([18, 19] : List Int)) := by simp; omega
      have e3 : ((i : Int) > 19) := by omega
      rw [decide_eq_false e1, decide_eq_false e2, decide_eq_true e3]
      rfl
theorem pure_law_wholeK (h : sp_law_wholeK K vs H Q E) : t_law_wholeK K (E1 Q) (start ["_law_thing"] vs) H := by
  obtain ⟨i, rfl, k⟩ := h
  show t_law_wholeK K (E1 Q) [some (.int i)] H
  unfold t_law_wholeK
  walk_at "go"
  exact k
theorem pure_law_error_right (T : Vs01 K) (h : sp_law_error_right K vs H Q E) : t_law_error_right K (E1 Q) (start ["_law_e", "_law_at", "_law_value", "_law_k", "_law_flags", "_law_own", "_law_due", "_law_kept_here", "_law_part"] vs) H := by
  obtain ⟨a, i, v, rfl, hi, hE, ⟨d, hd⟩, k⟩ := h
  show t_law_error_right K (E1 Q) [some (.ref a), some (.int (i : Nat)), some v, none, none, none, none, none, none] H
  unfold t_law_error_right
  have st : ∀ {H1 : Hp}, Ex [] H H1 → ExcAt H1 a (cl01 K i) (fs01 i v) := fun e => hE.ex fun b o hb => e b o (by simp) hb
  refine s_seq (s_ifS (s_test (s_op (s_call (s_cons (s_var rfl (s_nil (u_sorts hi hE fun p H1 hp e1 q1 => ?_))))))))
  refine s_lc (s_rng1 (s_cons (s_c (s_nil (s_rng1i (by decide) ?_)))))
  refine lc_mapR (by decide) (fun j => .bl (decide (j = i))) (fun j G C hj eG kk => ?_) (fun D H2 hD e2 q2 => ?_)
  · refine s_op (s_var rfl (s_var rfl (s_eqI ?_)))
    have z : decide ((0 : Int) + (j : Nat) = (i : Nat)) = decide (j = i) := by
      by_cases h : j = i
      · rw [decide_eq_true h, decide_eq_true (by omega)]
      · rw [decide_eq_false h, decide_eq_false (by omega)]
    rw [z]
    exact kk G Ex.rfl
  refine s_neLB (bs := (List.range 24).map fun j => decide (j = i)) (cs := (List.range 24).map fun j => decide (j = i)) ?_ ?_ ?_
  · rw [List.map_map]; exact SqL.of (e2.get0 q1)
  · rw [List.map_map]; exact SqL.of q2
  refine s_blQ (s_F (by rw [decide_eq_true rfl]; rfl) (s_next ?_))
  have t2 : Ex [] H H2 := e1.trans e2
  have hE2 := st t2
  refine s_seq (s_asg (s_lst (s_cons (s_cb (s_cons (s_var rfl (s_cons (s_c (s_nil (s_isB (j := 0) hE2 T hi (by decide) rfl ?_))))))))))
  refine s_cons (s_cb (s_cons (s_var rfl (s_cons (s_c (s_nil (s_isB (j := 1) hE2 T hi (by decide) rfl ?_)))))))
  refine s_cons (s_cb (s_cons (s_var rfl (s_cons (s_c (s_nil (s_isB (j := 2) hE2 T hi (by decide) rfl ?_)))))))
  refine s_nil (s_alloc (by rw [sizeLine_eq]; simp) fun p3 H3 hp3 e3 q3 => s_gName ?_)
  have hE3 := st (t2.trans e3)
  refine s_seq (s_asg (s_lst (s_cons (s_cb (s_cons (s_var rfl (s_cons (s_c (s_nil (s_isW (j := 0) hE3 T hi (by decide) rfl ?_))))))))))
  refine s_cons (s_cb (s_cons (s_var rfl (s_cons (s_c (s_nil (s_isW (j := 1) hE3 T hi (by decide) rfl ?_)))))))
  refine s_cons (s_cb (s_cons (s_var rfl (s_cons (s_c (s_nil (s_isW (j := 2) hE3 T hi (by decide) rfl ?_)))))))
  refine s_nil (s_alloc (by rw [sizeLine_eq]; simp) fun p4 H4 hp4 e4 q4 => s_gName ?_)
  refine s_seq (s_asg (s_lst (s_cons (s_op (s_var rfl (s_c (s_ltI (s_cons (s_op (s_var rfl (s_lst (s_cons (s_c (s_cons (s_c (s_nil (s_alloc (by decide) fun p5 H5 hp5 e5 q5 => ?_)))))))))))))))))
  refine s_inI (ls := [18, 19]) (SqL.of q5) (s_cons (s_op (s_var rfl (s_c (s_gtI (s_nil (s_alloc (by rw [sizeLine_eq]; simp) fun p6 H6 hp6 e6 q6 => s_gName ?_)))))))
  have t6 : Ex [] H H6 := t2.trans (e3.trans (e4.trans (e5.trans e6)))
  refine s_seq (s_asg (s_call (s_cons (s_var rfl (s_cons (s_var rfl (s_nil (u_kept hi (st t6) fun p7 H7 hp7 e7 q7 => s_gName ?_))))))))
  have r3 : H7 p3 = some (.lst (([decide (0 = gr01 i), decide (1 = gr01 i), decide (2 = gr01 i)]).map V.bl)) := e7.get0 (e6.get0 (e5.get0 (e4.get0 q3)))
  have r4 : H7 p4 = some (.lst (([decide (0 = gr01 i), decide (1 = gr01 i), decide (2 = gr01 i)]).map V.bl)) := e7.get0 (e6.get0 (e5.get0 q4))
  have r6 : H7 p6 = some (.lst (([decide ((i : Int) < 18), decide ((i : Int) ∈ ([18, 19] : List Int)), decide ((i : Int) > 19)]).map V.bl)) := e7.get0 q6
  refine s_ret (s_andV (s_op (s_var rfl (s_var rfl (s_eqLB (SqL.of r3) (SqL.of r6) (s_blQ ?_))))))
  rw [decide_eq_true (gr_due hi)]
  refine s_T rfl (s_andV (s_op (s_var rfl (s_var rfl (s_eqLB (SqL.of r4) (SqL.of r6) (s_blQ ?_))))))
  rw [decide_eq_true (gr_due hi)]
  have t7 : Ex [] H H7 := t6.trans e7
  refine s_T rfl (s_cb (s_cons (s_lc (s_iList (s_var rfl ⟨p7, rfl, ⟨_, SqL.of q7⟩, ?_⟩)))))
  refine lc_mapL (SqL.of q7) (by split <;> simp) (fun _ => .bl true) (fun n x G C hx eG kk => ?_) (fun D H8 hD e8 q8 => ?_)
  · have hx2 : x = v := by
      split at hx
      · cases hx
      · match n, hx with
        | 0, hx => cases hx; rfl
    subst hx2
    refine s_op (s_call (s_cons (s_var rfl (s_nil (u_faceX (d := d) (Dx.ex (t7.trans eG) _ _ _ hd) fun r1 G1 n1 x1 f1 => ?_)))))
    refine s_call (s_cons (s_var rfl (s_nil (u_faceX (d := d) (Dx.ex (t7.trans (eG.trans x1)) _ _ _ hd) fun r2 G2 n2 x2 f2 => ?_))))
    refine s_eqFr (n := 11) (m := 11) (by decide) (Fr.mono (fun _ h => h) (fun b xs _ hb => x2.get0 hb) _ _ _ f1) f2 (kk G2 (x1.trans x2))
  · refine s_nil (s_all (bs := (if i = 21 ∨ i = 22 then [] else [v]).map fun _ => true) ?_ ?_)
    · rw [List.map_map]; exact SqL.of q8
    · have z : ((if i = 21 ∨ i = 22 then [] else [v]).map fun _ => true).all id = true := by split <;> rfl
      rw [z]
      exact k H8 (t7.trans e8)
theorem pure_law_right01 (h : sp_law_right01 K vs H Q E) : t_law_right01 K (E1 Q) (start ["_law_pool_here", "_law_value", "_law_later", "_law_near", "_law_far", "_law_at"] vs) H := by
  obtain ⟨a, rfl, hp, k⟩ := h
  show t_law_right01 K (E1 Q) [some (.ref a), none, none, none, none, none] H
  unfold t_law_right01
  refine s_seq (s_par (s_cons (s_call (s_cons (s_var rfl (s_nil (u_odd hp fun v H1 e1 p1 o1 => ?_)))))))
  refine s_cons (s_call (s_cons (s_var rfl (s_nil (u_odd p1 fun w H2 e2 p2 o2 => s_nil (s_pair ?_))))))
  obtain ⟨d1, d1'⟩ := OddAt.val (K := K) o1
  obtain ⟨d2, d2'⟩ := OddAt.val (K := K) o2
  refine s_seq (s_par (s_cons (s_call (s_cons (s_var (v := v) rfl (s_nil (u_place fun p H3 e3 x3 => ?_)))))))
  refine s_cons (s_call (s_cons (s_var (v := w) rfl (s_nil (u_byname fun q H4 e4 x4 => s_nil (s_pair ?_))))))
  have y3 : Exs01 K H4 p v := x3.ex fun b o hb => e4 b o (by simp) hb
  have t4 : Ex [a] H H4 := e1.trans (e2.trans (fun b o _ hb => (e3.trans e4) b o (by simp) hb))
  have v1 : Dx K H4 5 v d1 := d1'.dx H4 ((ExN.of e2).trans (ExN.of0 (e3.trans e4)))
  have v2 : Dx K H4 5 w d2 := d2'.dx H4 (ExN.of0 (e3.trans e4))
  refine s_seq (s_for (s_rng1 (s_cons (s_c (s_nil (s_rng1i (by decide) ?_))))))
  refine for_rng (fun i σ G => ∃ x5, σ = [some (.ref a), some v, some w, some (.ref p), some (.ref q), x5] ∧ Ex [] H4 G) ⟨_, rfl, Ex.rfl⟩ ?_ ?_
  · rintro i _ G hi ⟨x5, rfl, eG⟩
    have hi' : i < 24 := hi
    refine s_gName ?_
    obtain ⟨us, u1, u2, u3⟩ := id y3
    obtain ⟨ws, w1, w2, w3⟩ := id x4
    have iu : i < us.length := by omega
    have iw : i < ws.length := by omega
    obtain ⟨b, eb, xb⟩ := u3 i us[i] (List.getElem?_eq_getElem iu)
    obtain ⟨c, ec, xc⟩ := w3 i ws[i] (List.getElem?_eq_getElem iw)
    have hn : (0 : Int) + (i : Nat) = ((i : Nat) : Int) := by omega
    refine s_ifS (s_or (s_not (s_tB (s_call (s_cons (s_op (s_var rfl (s_var rfl (s_ixL (SqL.of (eG.get0 u1)) (atI_of (v := V.ref b) (by omega) ?_) (s_cons (s_var rfl (s_cons (s_var rfl (s_nil ?_))))))))))))))
    · have z : ((0 : Int) + (i : Nat)).toNat = i := by omega
      rw [z, List.getElem?_eq_getElem iu, eb]
    rw [hn]
    refine u_err hi' (xb.ex fun x o hb => eG x o (by simp) hb) ⟨d1, Dx.ex eG _ _ _ v1⟩ fun G1 g1 => s_blQ (s_F rfl ?_)
    refine s_not (s_tB (s_call (s_cons (s_op (s_var rfl (s_var rfl (s_ixL (SqL.of (g1.get0 (eG.get0 w1))) (atI_of (v := V.ref c) (by omega) ?_) (s_cons (s_var rfl (s_cons (s_var rfl (s_nil ?_))))))))))))
    · have z : ((i : Nat) : Int).toNat = i := by omega
      rw [z, List.getElem?_eq_getElem iw, ec]
    refine u_err hi' (xc.ex fun x o hb => (eG.trans g1) x o (by simp) hb) ⟨d2, Dx.ex (eG.trans g1) _ _ _ v2⟩ fun G2 g2 => s_blQ (s_F rfl (s_next ?_))
    exact ⟨_, rfl, eG.trans (g1.trans g2)⟩
  · rintro _ G ⟨x5, rfl, eG⟩
    exact s_ret (s_c (k G (t4.trans (fun b o _ hb => eG b o (by simp) hb))))
theorem pure_law (h : sp_law K vs H Q E) : t_law K (E1 Q) (start ["_law_script", "_law_thing", "_law_k"] vs) H := by
  obtain ⟨a, ns, rfl, hs, hl, k⟩ := h
  show t_law K (E1 Q) [some (.ref a), none, none] H
  unfold t_law
  refine s_seq (s_ifS (s_test (s_op (s_call (s_nil (u_consts fun p H1 hp e1 q1 => ?_))))))
  refine s_lst (s_cons (s_c (s_cons (s_c (s_cons (s_c (s_cons (s_c (s_cons (s_c (s_cons (s_c (s_cons (s_c (s_cons (s_c (s_cons (s_c (s_cons (s_c (s_nil (s_alloc (by decide) fun p2 H2 hp2 e2 q2 => ?_))))))))))))))))))))))
  refine ⟨_, _, .lst (SqL.of (e2.get0 q1)) (dp_all (fun i => .int i) co01), .lst (SqL.of q2) (dp_all (fun i => .int i) co01), shaped_ints co01, shaped_ints co01, ?_⟩
  rw [show PyData.eqv (.list (co01.map PyData.int)) (.list (co01.map PyData.int)) = true from by decide +kernel]
  refine s_blQ (s_F rfl (s_next ?_))
  refine s_seq (s_ifS (s_not (s_tB (s_cb (s_cons (s_lc (s_iList (s_call (s_nil (u_consts fun p3 H3 hp3 e3 q3 => ⟨p3, rfl, ⟨_, SqL.of q3⟩, ?_⟩))))))))))
  refine lc_mapL (SqL.of q3) (by decide) (fun _ => .bl true) (fun n x G C hx eG kk => ?_) (fun D H4 hD e4 q4 => ?_)
  · obtain ⟨z, rfl⟩ : ∃ z : Int, x = .int z := by
      rw [List.getElem?_map] at hx
      cases h : co01[n]? with
      | none => rw [h] at hx; cases hx
      | some z => rw [h] at hx; cases hx; exact ⟨z, rfl⟩
    exact s_call (s_cons (s_var rfl (s_nil (u_whole01 (kk G Ex.rfl)))))
  refine s_nil (s_all (bs := co01.map fun _ => true) (by rw [List.map_map]; rw [List.map_map] at q4; exact SqL.of q4) (s_blQ (s_F rfl (s_next ?_))))
  have t4 : Ex [] H H4 := e1.trans (e2.trans (e3.trans e4))
  have hs4 : SqL K H4 a (ns.map V.int) := t4.sqL (by simp) hs
  walk_at "go"
  rw [List.length_map]
  generalize hn : (if (if (6 : Int) < (ns.length : Int) then (6 : Int) else (ns.length : Int)) > 2 then (if (6 : Int) < (ns.length : Int) then (6 : Int) else (ns.length : Int)) else 2) = n
  have hn2 : 0 ≤ n ∧ n ≤ 63 := by subst hn; split <;> (try split) <;> omega
  clear hn
  refine lc_mapR (by omega) (fun _ => .bl true) (fun i H1 C hi e kk => ?_) (fun D H' hD e hd => ?_)
  · walk_at "go"
    refine u_cell (e.sqL (by simp) hs4) hl (by omega) (by omega) fun c H2 e2 => ?_
    walk_at "go"
    rename_i p H3 hp e3 p3
    refine u_right01 p3 fun H4 e4 => ?_
    exact kk _ (e2.trans (Ex.drop hp e3 e4))
  · walk_at "go"
    refine s_all (bs := (List.range n.toNat).map fun _ => true) ?_ ?_
    · rw [List.map_map]; exact SqL.of hd
    · have : ((List.range n.toNat).map fun _ => true).all id = true := by simp
      rw [this]
      exact k _
end
end WB
namespace WB
open PySem PySem.Spec PyProof.Rows L2
structure Tx (K : Fr') (mg : Str → Option Value) : Prop where
  c : SaysW fa fn ex K
  h : ∃ h : Heap, K.In h ∧ h.Ns mainGlobals mg
theorem Tx.g_law_cell {K : Fr'} {mg : Str → Option Value} (T : Tx K mg) : mg "_law_cell" = some (.ref (He.ga K "_law_cell")) := by
  obtain ⟨h, X, G⟩ := T.h
  exact He.glo_ok X G (T.c.fact 0)
theorem Tx.g_law_pool {K : Fr'} {mg : Str → Option Value} (T : Tx K mg) : mg "_law_pool" = some (.ref (He.ga K "_law_pool")) := by
  obtain ⟨h, X, G⟩ := T.h
  exact He.glo_ok X G (T.c.fact 1)
theorem Tx.g_law_draw {K : Fr'} {mg : Str → Option Value} (T : Tx K mg) : mg "_law_draw" = some (.ref (He.ga K "_law_draw")) := by
  obtain ⟨h, X, G⟩ := T.h
  exact He.glo_ok X G (T.c.fact 2)
theorem Tx.g_law_faceX {K : Fr'} {mg : Str → Option Value} (T : Tx K mg) : mg "_law_face" = some (.ref (He.ga K "_law_face")) := by
  obtain ⟨h, X, G⟩ := T.h
  exact He.glo_ok X G (T.c.fact 3)
theorem Tx.g_law_wholeK {K : Fr'} {mg : Str → Option Value} (T : Tx K mg) : mg "_law_whole" = some (.ref (He.ga K "_law_whole")) := by
  obtain ⟨h, X, G⟩ := T.h
  exact He.glo_ok X G (T.c.fact 4)
theorem Tx.g_law_odd {K : Fr'} {mg : Str → Option Value} (T : Tx K mg) : mg "_law_odd" = some (.ref (He.ga K "_law_odd")) := by
  obtain ⟨h, X, G⟩ := T.h
  exact He.glo_ok X G (T.c.fact 5)
theorem Tx.g_law_sorts {K : Fr'} {mg : Str → Option Value} (T : Tx K mg) : mg "_law_sorts" = some (.ref (He.ga K "_law_sorts")) := by
  obtain ⟨h, X, G⟩ := T.h
  exact He.glo_ok X G (T.c.fact 6)
theorem Tx.g_law_by_place {K : Fr'} {mg : Str → Option Value} (T : Tx K mg) : mg "_law_by_place" = some (.ref (He.ga K "_law_by_place")) := by
  obtain ⟨h, X, G⟩ := T.h
  exact He.glo_ok X G (T.c.fact 7)
theorem Tx.g_law_by_name {K : Fr'} {mg : Str → Option Value} (T : Tx K mg) : mg "_law_by_name" = some (.ref (He.ga K "_law_by_name")) := by
  obtain ⟨h, X, G⟩ := T.h
  exact He.glo_ok X G (T.c.fact 8)
theorem Tx.g_law_kept {K : Fr'} {mg : Str → Option Value} (T : Tx K mg) : mg "_law_kept" = some (.ref (He.ga K "_law_kept")) := by
  obtain ⟨h, X, G⟩ := T.h
  exact He.glo_ok X G (T.c.fact 9)
theorem Tx.g_law_error_right {K : Fr'} {mg : Str → Option Value} (T : Tx K mg) : mg "_law_error_right" = some (.ref (He.ga K "_law_error_right")) := by
  obtain ⟨h, X, G⟩ := T.h
  exact He.glo_ok X G (T.c.fact 10)
theorem Tx.g_law_right01 {K : Fr'} {mg : Str → Option Value} (T : Tx K mg) : mg "_law_right" = some (.ref (He.ga K "_law_right")) := by
  obtain ⟨h, X, G⟩ := T.h
  exact He.glo_ok X G (T.c.fact 11)
theorem Tx.g_law_constants {K : Fr'} {mg : Str → Option Value} (T : Tx K mg) : mg "_law_constants" = some (.ref (He.ga K "_law_constants")) := by
  obtain ⟨h, X, G⟩ := T.h
  exact He.glo_ok X G (T.c.fact 12)
theorem Tx.g_law {K : Fr'} {mg : Str → Option Value} (T : Tx K mg) : mg "law" = some (.ref (He.ga K "law")) := by
  obtain ⟨h, X, G⟩ := T.h
  exact He.glo_ok X G (T.c.fact 13)
theorem Tx.g_Broken {K : Fr'} {mg : Str → Option Value} (T : Tx K mg) : mg "Broken" = some (.ref (He.ga K "Broken")) := by
  obtain ⟨h, X, G⟩ := T.h
  exact He.glo_ok X G (T.c.fact 14)
theorem Tx.g_InUse {K : Fr'} {mg : Str → Option Value} (T : Tx K mg) : mg "InUse" = some (.ref (He.ga K "InUse")) := by
  obtain ⟨h, X, G⟩ := T.h
  exact He.glo_ok X G (T.c.fact 15)
theorem Tx.g_InvalidChanges {K : Fr'} {mg : Str → Option Value} (T : Tx K mg) : mg "InvalidChanges" = some (.ref (He.ga K "InvalidChanges")) := by
  obtain ⟨h, X, G⟩ := T.h
  exact He.glo_ok X G (T.c.fact 16)
theorem Tx.g_InvalidIndex {K : Fr'} {mg : Str → Option Value} (T : Tx K mg) : mg "InvalidIndex" = some (.ref (He.ga K "InvalidIndex")) := by
  obtain ⟨h, X, G⟩ := T.h
  exact He.glo_ok X G (T.c.fact 17)
theorem Tx.g_InvalidName {K : Fr'} {mg : Str → Option Value} (T : Tx K mg) : mg "InvalidName" = some (.ref (He.ga K "InvalidName")) := by
  obtain ⟨h, X, G⟩ := T.h
  exact He.glo_ok X G (T.c.fact 18)
theorem Tx.g_InvalidNumber {K : Fr'} {mg : Str → Option Value} (T : Tx K mg) : mg "InvalidNumber" = some (.ref (He.ga K "InvalidNumber")) := by
  obtain ⟨h, X, G⟩ := T.h
  exact He.glo_ok X G (T.c.fact 19)
theorem Tx.g_InvalidPairs {K : Fr'} {mg : Str → Option Value} (T : Tx K mg) : mg "InvalidPairs" = some (.ref (He.ga K "InvalidPairs")) := by
  obtain ⟨h, X, G⟩ := T.h
  exact He.glo_ok X G (T.c.fact 20)
theorem Tx.g_InvalidPlace {K : Fr'} {mg : Str → Option Value} (T : Tx K mg) : mg "InvalidPlace" = some (.ref (He.ga K "InvalidPlace")) := by
  obtain ⟨h, X, G⟩ := T.h
  exact He.glo_ok X G (T.c.fact 21)
theorem Tx.g_InvalidRound {K : Fr'} {mg : Str → Option Value} (T : Tx K mg) : mg "InvalidRound" = some (.ref (He.ga K "InvalidRound")) := by
  obtain ⟨h, X, G⟩ := T.h
  exact He.glo_ok X G (T.c.fact 22)
theorem Tx.g_InvalidRow {K : Fr'} {mg : Str → Option Value} (T : Tx K mg) : mg "InvalidRow" = some (.ref (He.ga K "InvalidRow")) := by
  obtain ⟨h, X, G⟩ := T.h
  exact He.glo_ok X G (T.c.fact 23)
theorem Tx.g_InvalidRows {K : Fr'} {mg : Str → Option Value} (T : Tx K mg) : mg "InvalidRows" = some (.ref (He.ga K "InvalidRows")) := by
  obtain ⟨h, X, G⟩ := T.h
  exact He.glo_ok X G (T.c.fact 24)
theorem Tx.g_InvalidSigns {K : Fr'} {mg : Str → Option Value} (T : Tx K mg) : mg "InvalidSigns" = some (.ref (He.ga K "InvalidSigns")) := by
  obtain ⟨h, X, G⟩ := T.h
  exact He.glo_ok X G (T.c.fact 25)
theorem Tx.g_InvalidStates {K : Fr'} {mg : Str → Option Value} (T : Tx K mg) : mg "InvalidStates" = some (.ref (He.ga K "InvalidStates")) := by
  obtain ⟨h, X, G⟩ := T.h
  exact He.glo_ok X G (T.c.fact 26)
theorem Tx.g_InvalidTurns {K : Fr'} {mg : Str → Option Value} (T : Tx K mg) : mg "InvalidTurns" = some (.ref (He.ga K "InvalidTurns")) := by
  obtain ⟨h, X, G⟩ := T.h
  exact He.glo_ok X G (T.c.fact 27)
theorem Tx.g_InvalidWish {K : Fr'} {mg : Str → Option Value} (T : Tx K mg) : mg "InvalidWish" = some (.ref (He.ga K "InvalidWish")) := by
  obtain ⟨h, X, G⟩ := T.h
  exact He.glo_ok X G (T.c.fact 28)
theorem Tx.g_InvalidWord {K : Fr'} {mg : Str → Option Value} (T : Tx K mg) : mg "InvalidWord" = some (.ref (He.ga K "InvalidWord")) := by
  obtain ⟨h, X, G⟩ := T.h
  exact He.glo_ok X G (T.c.fact 29)
theorem Tx.g_MOST_CHANGES {K : Fr'} {mg : Str → Option Value} (T : Tx K mg) : ∃ t, mg "MOST_CHANGES" = some (.int 6 t) := by
  obtain ⟨h, X, G⟩ := T.h
  exact He.int_ok X G (T.c.fact 30)
theorem Tx.g_MOST_LENGTH {K : Fr'} {mg : Str → Option Value} (T : Tx K mg) : ∃ t, mg "MOST_LENGTH" = some (.int 9 t) := by
  obtain ⟨h, X, G⟩ := T.h
  exact He.int_ok X G (T.c.fact 31)
theorem Tx.g_MOST_ROUNDS {K : Fr'} {mg : Str → Option Value} (T : Tx K mg) : ∃ t, mg "MOST_ROUNDS" = some (.int 99 t) := by
  obtain ⟨h, X, G⟩ := T.h
  exact He.int_ok X G (T.c.fact 32)
theorem Tx.g_MOST_SIGNS {K : Fr'} {mg : Str → Option Value} (T : Tx K mg) : ∃ t, mg "MOST_SIGNS" = some (.int 4 t) := by
  obtain ⟨h, X, G⟩ := T.h
  exact He.int_ok X G (T.c.fact 33)
theorem Tx.g_MOST_STANDS {K : Fr'} {mg : Str → Option Value} (T : Tx K mg) : ∃ t, mg "MOST_STANDS" = some (.int 600 t) := by
  obtain ⟨h, X, G⟩ := T.h
  exact He.int_ok X G (T.c.fact 34)
theorem Tx.g_MOST_STATES {K : Fr'} {mg : Str → Option Value} (T : Tx K mg) : ∃ t, mg "MOST_STATES" = some (.int 6 t) := by
  obtain ⟨h, X, G⟩ := T.h
  exact He.int_ok X G (T.c.fact 35)
theorem Tx.g_MOST_TIMES {K : Fr'} {mg : Str → Option Value} (T : Tx K mg) : ∃ t, mg "MOST_TIMES" = some (.int 9 t) := by
  obtain ⟨h, X, G⟩ := T.h
  exact He.int_ok X G (T.c.fact 36)
theorem Tx.g_MOST_TOTAL {K : Fr'} {mg : Str → Option Value} (T : Tx K mg) : ∃ t, mg "MOST_TOTAL" = some (.int 30 t) := by
  obtain ⟨h, X, G⟩ := T.h
  exact He.int_ok X G (T.c.fact 37)
theorem Tx.g_MOST_WARM {K : Fr'} {mg : Str → Option Value} (T : Tx K mg) : ∃ t, mg "MOST_WARM" = some (.int 9 t) := by
  obtain ⟨h, X, G⟩ := T.h
  exact He.int_ok X G (T.c.fact 38)
theorem Tx.g_MOST_WORD {K : Fr'} {mg : Str → Option Value} (T : Tx K mg) : ∃ t, mg "MOST_WORD" = some (.int 600 t) := by
  obtain ⟨h, X, G⟩ := T.h
  exact He.int_ok X G (T.c.fact 39)
theorem Tx.g_NoAnswer {K : Fr'} {mg : Str → Option Value} (T : Tx K mg) : mg "NoAnswer" = some (.ref (He.ga K "NoAnswer")) := by
  obtain ⟨h, X, G⟩ := T.h
  exact He.glo_ok X G (T.c.fact 40)
theorem Tx.g_NoRing {K : Fr'} {mg : Str → Option Value} (T : Tx K mg) : mg "NoRing" = some (.ref (He.ga K "NoRing")) := by
  obtain ⟨h, X, G⟩ := T.h
  exact He.glo_ok X G (T.c.fact 41)
theorem Tx.g_NotAKind {K : Fr'} {mg : Str → Option Value} (T : Tx K mg) : mg "NotAKind" = some (.ref (He.ga K "NotAKind")) := by
  obtain ⟨h, X, G⟩ := T.h
  exact He.glo_ok X G (T.c.fact 42)
theorem Tx.g_NotALoop {K : Fr'} {mg : Str → Option Value} (T : Tx K mg) : mg "NotALoop" = some (.ref (He.ga K "NotALoop")) := by
  obtain ⟨h, X, G⟩ := T.h
  exact He.glo_ok X G (T.c.fact 43)
theorem Tx.g_NotARing {K : Fr'} {mg : Str → Option Value} (T : Tx K mg) : mg "NotARing" = some (.ref (He.ga K "NotARing")) := by
  obtain ⟨h, X, G⟩ := T.h
  exact He.glo_ok X G (T.c.fact 44)
theorem Tx.g_NothingToUndo {K : Fr'} {mg : Str → Option Value} (T : Tx K mg) : mg "NothingToUndo" = some (.ref (He.ga K "NothingToUndo")) := by
  obtain ⟨h, X, G⟩ := T.h
  exact He.glo_ok X G (T.c.fact 45)
theorem Tx.g_OtherSigns {K : Fr'} {mg : Str → Option Value} (T : Tx K mg) : mg "OtherSigns" = some (.ref (He.ga K "OtherSigns")) := by
  obtain ⟨h, X, G⟩ := T.h
  exact He.glo_ok X G (T.c.fact 46)
theorem Tx.g_TooMany {K : Fr'} {mg : Str → Option Value} (T : Tx K mg) : mg "TooMany" = some (.ref (He.ga K "TooMany")) := by
  obtain ⟨h, X, G⟩ := T.h
  exact He.glo_ok X G (T.c.fact 47)
theorem Tx.g_UnknownName {K : Fr'} {mg : Str → Option Value} (T : Tx K mg) : mg "UnknownName" = some (.ref (He.ga K "UnknownName")) := by
  obtain ⟨h, X, G⟩ := T.h
  exact He.glo_ok X G (T.c.fact 48)
theorem Tx.g_WrongName {K : Fr'} {mg : Str → Option Value} (T : Tx K mg) : mg "WrongName" = some (.ref (He.ga K "WrongName")) := by
  obtain ⟨h, X, G⟩ := T.h
  exact He.glo_ok X G (T.c.fact 49)
theorem Tx.g_WrongValue {K : Fr'} {mg : Str → Option Value} (T : Tx K mg) : mg "WrongValue" = some (.ref (He.ga K "WrongValue")) := by
  obtain ⟨h, X, G⟩ := T.h
  exact He.glo_ok X G (T.c.fact 50)
theorem Tx.n_ArithmeticError {K : Fr'} {mg : Str → Option Value} (T : Tx K mg) : mg "ArithmeticError" = none := by
  obtain ⟨h, X, G⟩ := T.h
  exact He.free_ok X G (T.c.fact 51)
theorem Tx.n_LookupError {K : Fr'} {mg : Str → Option Value} (T : Tx K mg) : mg "LookupError" = none := by
  obtain ⟨h, X, G⟩ := T.h
  exact He.free_ok X G (T.c.fact 52)
theorem Tx.n_ValueError {K : Fr'} {mg : Str → Option Value} (T : Tx K mg) : mg "ValueError" = none := by
  obtain ⟨h, X, G⟩ := T.h
  exact He.free_ok X G (T.c.fact 53)
theorem Tx.n_abs {K : Fr'} {mg : Str → Option Value} (T : Tx K mg) : mg "abs" = none := by
  obtain ⟨h, X, G⟩ := T.h
  exact He.free_ok X G (T.c.fact 54)
theorem Tx.n_all {K : Fr'} {mg : Str → Option Value} (T : Tx K mg) : mg "all" = none := by
  obtain ⟨h, X, G⟩ := T.h
  exact He.free_ok X G (T.c.fact 55)
theorem Tx.n_bool {K : Fr'} {mg : Str → Option Value} (T : Tx K mg) : mg "bool" = none := by
  obtain ⟨h, X, G⟩ := T.h
  exact He.free_ok X G (T.c.fact 56)
theorem Tx.n_dict {K : Fr'} {mg : Str → Option Value} (T : Tx K mg) : mg "dict" = none := by
  obtain ⟨h, X, G⟩ := T.h
  exact He.free_ok X G (T.c.fact 57)
theorem Tx.n_divmod {K : Fr'} {mg : Str → Option Value} (T : Tx K mg) : mg "divmod" = none := by
  obtain ⟨h, X, G⟩ := T.h
  exact He.free_ok X G (T.c.fact 58)
theorem Tx.n_int {K : Fr'} {mg : Str → Option Value} (T : Tx K mg) : mg "int" = none := by
  obtain ⟨h, X, G⟩ := T.h
  exact He.free_ok X G (T.c.fact 59)
theorem Tx.n_isinstance {K : Fr'} {mg : Str → Option Value} (T : Tx K mg) : mg "isinstance" = none := by
  obtain ⟨h, X, G⟩ := T.h
  exact He.free_ok X G (T.c.fact 60)
theorem Tx.n_len {K : Fr'} {mg : Str → Option Value} (T : Tx K mg) : mg "len" = none := by
  obtain ⟨h, X, G⟩ := T.h
  exact He.free_ok X G (T.c.fact 61)
theorem Tx.n_list {K : Fr'} {mg : Str → Option Value} (T : Tx K mg) : mg "list" = none := by
  obtain ⟨h, X, G⟩ := T.h
  exact He.free_ok X G (T.c.fact 62)
theorem Tx.n_max {K : Fr'} {mg : Str → Option Value} (T : Tx K mg) : mg "max" = none := by
  obtain ⟨h, X, G⟩ := T.h
  exact He.free_ok X G (T.c.fact 63)
theorem Tx.n_min {K : Fr'} {mg : Str → Option Value} (T : Tx K mg) : mg "min" = none := by
  obtain ⟨h, X, G⟩ := T.h
  exact He.free_ok X G (T.c.fact 64)
theorem Tx.n_range {K : Fr'} {mg : Str → Option Value} (T : Tx K mg) : mg "range" = none := by
  obtain ⟨h, X, G⟩ := T.h
  exact He.free_ok X G (T.c.fact 65)
theorem Tx.n_tuple {K : Fr'} {mg : Str → Option Value} (T : Tx K mg) : mg "tuple" = none := by
  obtain ⟨h, X, G⟩ := T.h
  exact He.free_ok X G (T.c.fact 66)
theorem Tx.xk_InvalidWord {K : Fr'} {mg : Str → Option Value} (T : Tx K mg) : ExcK K (He.ga K "InvalidWord") (He.ma K (He.ga K "InvalidWord") "__init__") "given" := excKB_ok (T.c.more 0)
theorem Tx.xk_InvalidSigns {K : Fr'} {mg : Str → Option Value} (T : Tx K mg) : ExcK K (He.ga K "InvalidSigns") (He.ma K (He.ga K "InvalidSigns") "__init__") "given" := excKB_ok (T.c.more 1)
theorem Tx.xk_InvalidNumber {K : Fr'} {mg : Str → Option Value} (T : Tx K mg) : ExcK K (He.ga K "InvalidNumber") (He.ma K (He.ga K "InvalidNumber") "__init__") "given" := excKB_ok (T.c.more 2)
theorem Tx.xk_InvalidRound {K : Fr'} {mg : Str → Option Value} (T : Tx K mg) : ExcK K (He.ga K "InvalidRound") (He.ma K (He.ga K "InvalidRound") "__init__") "given" := excKB_ok (T.c.more 3)
theorem Tx.xk_InvalidPlace {K : Fr'} {mg : Str → Option Value} (T : Tx K mg) : ExcK K (He.ga K "InvalidPlace") (He.ma K (He.ga K "InvalidPlace") "__init__") "given" := excKB_ok (T.c.more 4)
theorem Tx.xk_InvalidRow {K : Fr'} {mg : Str → Option Value} (T : Tx K mg) : ExcK K (He.ga K "InvalidRow") (He.ma K (He.ga K "InvalidRow") "__init__") "given" := excKB_ok (T.c.more 5)
theorem Tx.xk_InvalidWish {K : Fr'} {mg : Str → Option Value} (T : Tx K mg) : ExcK K (He.ga K "InvalidWish") (He.ma K (He.ga K "InvalidWish") "__init__") "given" := excKB_ok (T.c.more 6)
theorem Tx.xk_InvalidIndex {K : Fr'} {mg : Str → Option Value} (T : Tx K mg) : ExcK K (He.ga K "InvalidIndex") (He.ma K (He.ga K "InvalidIndex") "__init__") "given" := excKB_ok (T.c.more 7)
theorem Tx.xk_InvalidName {K : Fr'} {mg : Str → Option Value} (T : Tx K mg) : ExcK K (He.ga K "InvalidName") (He.ma K (He.ga K "InvalidName") "__init__") "given" := excKB_ok (T.c.more 8)
theorem Tx.xk_NotARing {K : Fr'} {mg : Str → Option Value} (T : Tx K mg) : ExcK K (He.ga K "NotARing") (He.ma K (He.ga K "NotARing") "__init__") "given" := excKB_ok (T.c.more 9)
theorem Tx.xk_NotAKind {K : Fr'} {mg : Str → Option Value} (T : Tx K mg) : ExcK K (He.ga K "NotAKind") (He.ma K (He.ga K "NotAKind") "__init__") "given" := excKB_ok (T.c.more 10)
theorem Tx.xk_NotALoop {K : Fr'} {mg : Str → Option Value} (T : Tx K mg) : ExcK K (He.ga K "NotALoop") (He.ma K (He.ga K "NotALoop") "__init__") "given" := excKB_ok (T.c.more 11)
theorem Tx.xk_OtherSigns {K : Fr'} {mg : Str → Option Value} (T : Tx K mg) : ExcK K (He.ga K "OtherSigns") (He.ma K (He.ga K "OtherSigns") "__init__") "given" := excKB_ok (T.c.more 12)
theorem Tx.xk_InvalidPairs {K : Fr'} {mg : Str → Option Value} (T : Tx K mg) : ExcK K (He.ga K "InvalidPairs") (He.ma K (He.ga K "InvalidPairs") "__init__") "index" := excKB_ok (T.c.more 13)
theorem Tx.xk_InvalidStates {K : Fr'} {mg : Str → Option Value} (T : Tx K mg) : ExcK K (He.ga K "InvalidStates") (He.ma K (He.ga K "InvalidStates") "__init__") "index" := excKB_ok (T.c.more 14)
theorem Tx.xk_InvalidRows {K : Fr'} {mg : Str → Option Value} (T : Tx K mg) : ExcK K (He.ga K "InvalidRows") (He.ma K (He.ga K "InvalidRows") "__init__") "index" := excKB_ok (T.c.more 15)
theorem Tx.xk_InvalidTurns {K : Fr'} {mg : Str → Option Value} (T : Tx K mg) : ExcK K (He.ga K "InvalidTurns") (He.ma K (He.ga K "InvalidTurns") "__init__") "index" := excKB_ok (T.c.more 16)
theorem Tx.xk_InvalidChanges {K : Fr'} {mg : Str → Option Value} (T : Tx K mg) : ExcK K (He.ga K "InvalidChanges") (He.ma K (He.ga K "InvalidChanges") "__init__") "index" := excKB_ok (T.c.more 17)
theorem Tx.xk_UnknownName {K : Fr'} {mg : Str → Option Value} (T : Tx K mg) : ExcG K (He.ga K "UnknownName") (He.ma K (He.ga K "UnknownName") "__init__") "given" := excGB_ok (T.c.more 18)
theorem Tx.xk_InUse {K : Fr'} {mg : Str → Option Value} (T : Tx K mg) : ExcG K (He.ga K "InUse") (He.ma K (He.ga K "InUse") "__init__") "index" := excGB_ok (T.c.more 19)
theorem Tx.xk_TooMany {K : Fr'} {mg : Str → Option Value} (T : Tx K mg) : ExcG K (He.ga K "TooMany") (He.ma K (He.ga K "TooMany") "__init__") "limit" := excGB_ok (T.c.more 20)
theorem Tx.xk_NoRing {K : Fr'} {mg : Str → Option Value} (T : Tx K mg) : ExcN K (He.ga K "NoRing") (He.ma K (He.ga K "NoRing") "__init__") := excNB_ok (T.c.more 21)
theorem Tx.xk_NothingToUndo {K : Fr'} {mg : Str → Option Value} (T : Tx K mg) : ExcN K (He.ga K "NothingToUndo") (He.ma K (He.ga K "NothingToUndo") "__init__") := excNB_ok (T.c.more 22)
theorem Tx.xk_Broken {K : Fr'} {mg : Str → Option Value} (T : Tx K mg) : ExcG K (He.ga K "Broken") (He.ma K (He.ga K "Broken") "__init__") "index" := excGB_ok (T.c.more 23)
theorem Tx.vs01 {K : Fr'} {mg : Str → Option Value} (T : Tx K mg) : Vs01 K := vs01B_ok (T.c.more 24)
theorem Tx.vx01 {K : Fr'} {mg : Str → Option Value} (T : Tx K mg) : Vx01 K := ⟨T.xk_InvalidWord, T.xk_InvalidSigns, T.xk_InvalidNumber, T.xk_InvalidRound, T.xk_InvalidPlace, T.xk_InvalidRow, T.xk_InvalidWish, T.xk_InvalidIndex, T.xk_InvalidName, T.xk_NotARing, T.xk_NotAKind, T.xk_NotALoop, T.xk_OtherSigns, T.xk_InvalidPairs, T.xk_InvalidStates, T.xk_InvalidRows, T.xk_InvalidTurns, T.xk_InvalidChanges, T.xk_UnknownName, T.xk_InUse, T.xk_TooMany, T.xk_NoRing, T.xk_NothingToUndo, T.xk_Broken⟩
theorem Tx.f_law_cell {K : Fr'} {mg : Str → Option Value} (T : Tx K mg) : FunD K "_law_cell" "_law_cell" (defArgs st_law_cell) (defBody st_law_cell) (defScope st_law_cell) (d_law_cell.dvs K) (d_law_cell.kws K) (He.ga K "_law_cell") (fdOf K (He.ga K "_law_cell")) := T.c.def_ 0 (d := d_law_cell)
theorem Tx.k_law_cell {K : Fr'} {mg : Str → Option Value} (T : Tx K mg) : PySem.W.keepIn K (.ref (He.ga K "_law_cell")) = true := T.f_law_cell.kp
theorem Tx.b_law_cell {K : Fr'} {mg : Str → Option Value} (T : Tx K mg) : Binds K (fdOf K (He.ga K "_law_cell")) ["_law_script", "_law_k"] [] := FunD.bindsN (kws := d_law_cell.kws K) (T.f_law_cell) fun _ _ _ _ _ _ us hl => match us, hl with | [_, _], _ => rfl
theorem Tx.f_law_pool {K : Fr'} {mg : Str → Option Value} (T : Tx K mg) : FunD K "_law_pool" "_law_pool" (defArgs st_law_pool) (defBody st_law_pool) (defScope st_law_pool) (d_law_pool.dvs K) (d_law_pool.kws K) (He.ga K "_law_pool") (fdOf K (He.ga K "_law_pool")) := T.c.def_ 1 (d := d_law_pool)
theorem Tx.k_law_pool {K : Fr'} {mg : Str → Option Value} (T : Tx K mg) : PySem.W.keepIn K (.ref (He.ga K "_law_pool")) = true := T.f_law_pool.kp
theorem Tx.b_law_pool {K : Fr'} {mg : Str → Option Value} (T : Tx K mg) : Binds K (fdOf K (He.ga K "_law_pool")) ["_law_cell_here"] [] := FunD.bindsN (kws := d_law_pool.kws K) (T.f_law_pool) fun _ _ _ _ _ _ us hl => match us, hl with | [_], _ => rfl
theorem Tx.f_law_draw {K : Fr'} {mg : Str → Option Value} (T : Tx K mg) : FunD K "_law_draw" "_law_draw" (defArgs st_law_draw) (defBody st_law_draw) (defScope st_law_draw) (d_law_draw.dvs K) (d_law_draw.kws K) (He.ga K "_law_draw") (fdOf K (He.ga K "_law_draw")) := T.c.def_ 2 (d := d_law_draw)
theorem Tx.k_law_draw {K : Fr'} {mg : Str → Option Value} (T : Tx K mg) : PySem.W.keepIn K (.ref (He.ga K "_law_draw")) = true := T.f_law_draw.kp
theorem Tx.b_law_draw {K : Fr'} {mg : Str → Option Value} (T : Tx K mg) : Binds K (fdOf K (He.ga K "_law_draw")) ["_law_pool_here", "_law_many"] [] := FunD.bindsN (kws := d_law_draw.kws K) (T.f_law_draw) fun _ _ _ _ _ _ us hl => match us, hl with | [_, _], _ => rfl
theorem Tx.f_law_faceX {K : Fr'} {mg : Str → Option Value} (T : Tx K mg) : FunD K "_law_face" "_law_face" (defArgs st_law_faceX) (defBody st_law_faceX) (defScope st_law_faceX) (d_law_faceX.dvs K) (d_law_faceX.kws K) (He.ga K "_law_face") (fdOf K (He.ga K "_law_face")) := T.c.def_ 3 (d := d_law_faceX)
theorem Tx.k_law_faceX {K : Fr'} {mg : Str → Option Value} (T : Tx K mg) : PySem.W.keepIn K (.ref (He.ga K "_law_face")) = true := T.f_law_faceX.kp
theorem Tx.b_law_faceX {K : Fr'} {mg : Str → Option Value} (T : Tx K mg) : Binds K (fdOf K (He.ga K "_law_face")) ["_law_thing"] [] := FunD.bindsN (kws := d_law_faceX.kws K) (T.f_law_faceX) fun _ _ _ _ _ _ us hl => match us, hl with | [_], _ => rfl
theorem Tx.f_law_wholeK {K : Fr'} {mg : Str → Option Value} (T : Tx K mg) : FunD K "_law_whole" "_law_whole" (defArgs st_law_wholeK) (defBody st_law_wholeK) (defScope st_law_wholeK) (d_law_wholeK.dvs K) (d_law_wholeK.kws K) (He.ga K "_law_whole") (fdOf K (He.ga K "_law_whole")) := T.c.def_ 4 (d := d_law_wholeK)
theorem Tx.k_law_wholeK {K : Fr'} {mg : Str → Option Value} (T : Tx K mg) : PySem.W.keepIn K (.ref (He.ga K "_law_whole")) = true := T.f_law_wholeK.kp
theorem Tx.b_law_wholeK {K : Fr'} {mg : Str → Option Value} (T : Tx K mg) : Binds K (fdOf K (He.ga K "_law_whole")) ["_law_thing"] [] := FunD.bindsN (kws := d_law_wholeK.kws K) (T.f_law_wholeK) fun _ _ _ _ _ _ us hl => match us, hl with | [_], _ => rfl
theorem Tx.f_law_odd {K : Fr'} {mg : Str → Option Value} (T : Tx K mg) : FunD K "_law_odd" "_law_odd" (defArgs st_law_odd) (defBody st_law_odd) (defScope st_law_odd) (d_law_odd.dvs K) (d_law_odd.kws K) (He.ga K "_law_odd") (fdOf K (He.ga K "_law_odd")) := T.c.def_ 5 (d := d_law_odd)
theorem Tx.k_law_odd {K : Fr'} {mg : Str → Option Value} (T : Tx K mg) : PySem.W.keepIn K (.ref (He.ga K "_law_odd")) = true := T.f_law_odd.kp
theorem Tx.b_law_odd {K : Fr'} {mg : Str → Option Value} (T : Tx K mg) : Binds K (fdOf K (He.ga K "_law_odd")) ["_law_pool_here"] [] := FunD.bindsN (kws := d_law_odd.kws K) (T.f_law_odd) fun _ _ _ _ _ _ us hl => match us, hl with | [_], _ => rfl
theorem Tx.f_law_sorts {K : Fr'} {mg : Str → Option Value} (T : Tx K mg) : FunD K "_law_sorts" "_law_sorts" (defArgs st_law_sorts) (defBody st_law_sorts) (defScope st_law_sorts) (d_law_sorts.dvs K) (d_law_sorts.kws K) (He.ga K "_law_sorts") (fdOf K (He.ga K "_law_sorts")) := T.c.def_ 6 (d := d_law_sorts)
theorem Tx.k_law_sorts {K : Fr'} {mg : Str → Option Value} (T : Tx K mg) : PySem.W.keepIn K (.ref (He.ga K "_law_sorts")) = true := T.f_law_sorts.kp
theorem Tx.b_law_sorts {K : Fr'} {mg : Str → Option Value} (T : Tx K mg) : Binds K (fdOf K (He.ga K "_law_sorts")) ["_law_e"] [] := FunD.bindsN (kws := d_law_sorts.kws K) (T.f_law_sorts) fun _ _ _ _ _ _ us hl => match us, hl with | [_], _ => rfl
theorem Tx.f_law_by_place {K : Fr'} {mg : Str → Option Value} (T : Tx K mg) : FunD K "_law_by_place" "_law_by_place" (defArgs st_law_by_place) (defBody st_law_by_place) (defScope st_law_by_place) (d_law_by_place.dvs K) (d_law_by_place.kws K) (He.ga K "_law_by_place") (fdOf K (He.ga K "_law_by_place")) := T.c.def_ 7 (d := d_law_by_place)
theorem Tx.k_law_by_place {K : Fr'} {mg : Str → Option Value} (T : Tx K mg) : PySem.W.keepIn K (.ref (He.ga K "_law_by_place")) = true := T.f_law_by_place.kp
theorem Tx.b_law_by_place {K : Fr'} {mg : Str → Option Value} (T : Tx K mg) : Binds K (fdOf K (He.ga K "_law_by_place")) ["_law_value"] [] := FunD.bindsN (kws := d_law_by_place.kws K) (T.f_law_by_place) fun _ _ _ _ _ _ us hl => match us, hl with | [_], _ => rfl
theorem Tx.f_law_by_name {K : Fr'} {mg : Str → Option Value} (T : Tx K mg) : FunD K "_law_by_name" "_law_by_name" (defArgs st_law_by_name) (defBody st_law_by_name) (defScope st_law_by_name) (d_law_by_name.dvs K) (d_law_by_name.kws K) (He.ga K "_law_by_name") (fdOf K (He.ga K "_law_by_name")) := T.c.def_ 8 (d := d_law_by_name)
theorem Tx.k_law_by_name {K : Fr'} {mg : Str → Option Value} (T : Tx K mg) : PySem.W.keepIn K (.ref (He.ga K "_law_by_name")) = true := T.f_law_by_name.kp
theorem Tx.b_law_by_name {K : Fr'} {mg : Str → Option Value} (T : Tx K mg) : Binds K (fdOf K (He.ga K "_law_by_name")) ["_law_value"] [] := FunD.bindsN (kws := d_law_by_name.kws K) (T.f_law_by_name) fun _ _ _ _ _ _ us hl => match us, hl with | [_], _ => rfl
theorem Tx.f_law_kept {K : Fr'} {mg : Str → Option Value} (T : Tx K mg) : FunD K "_law_kept" "_law_kept" (defArgs st_law_kept) (defBody st_law_kept) (defScope st_law_kept) (d_law_kept.dvs K) (d_law_kept.kws K) (He.ga K "_law_kept") (fdOf K (He.ga K "_law_kept")) := T.c.def_ 9 (d := d_law_kept)
theorem Tx.k_law_kept {K : Fr'} {mg : Str → Option Value} (T : Tx K mg) : PySem.W.keepIn K (.ref (He.ga K "_law_kept")) = true := T.f_law_kept.kp
theorem Tx.b_law_kept {K : Fr'} {mg : Str → Option Value} (T : Tx K mg) : Binds K (fdOf K (He.ga K "_law_kept")) ["_law_e", "_law_at"] [] := FunD.bindsN (kws := d_law_kept.kws K) (T.f_law_kept) fun _ _ _ _ _ _ us hl => match us, hl with | [_, _], _ => rfl
theorem Tx.f_law_error_right {K : Fr'} {mg : Str → Option Value} (T : Tx K mg) : FunD K "_law_error_right" "_law_error_right" (defArgs st_law_error_right) (defBody st_law_error_right) (defScope st_law_error_right) (d_law_error_right.dvs K) (d_law_error_right.kws K) (He.ga K "_law_error_right") (fdOf K (He.ga K "_law_error_right")) := T.c.def_ 10 (d := d_law_error_right)
theorem Tx.k_law_error_right {K : Fr'} {mg : Str → Option Value} (T : Tx K mg) : PySem.W.keepIn K (.ref (He.ga K "_law_error_right")) = true := T.f_law_error_right.kp
theorem Tx.b_law_error_right {K : Fr'} {mg : Str → Option Value} (T : Tx K mg) : Binds K (fdOf K (He.ga K "_law_error_right")) ["_law_e", "_law_at", "_law_value"] [] := FunD.bindsN (kws := d_law_error_right.kws K) (T.f_law_error_right) fun _ _ _ _ _ _ us hl => match us, hl with | [_, _, _], _ => rfl
theorem Tx.f_law_right01 {K : Fr'} {mg : Str → Option Value} (T : Tx K mg) : FunD K "_law_right" "_law_right" (defArgs st_law_right01) (defBody st_law_right01) (defScope st_law_right01) (d_law_right01.dvs K) (d_law_right01.kws K) (He.ga K "_law_right") (fdOf K (He.ga K "_law_right")) := T.c.def_ 11 (d := d_law_right01)
theorem Tx.k_law_right01 {K : Fr'} {mg : Str → Option Value} (T : Tx K mg) : PySem.W.keepIn K (.ref (He.ga K "_law_right")) = true := T.f_law_right01.kp
theorem Tx.b_law_right01 {K : Fr'} {mg : Str → Option Value} (T : Tx K mg) : Binds K (fdOf K (He.ga K "_law_right")) ["_law_pool_here"] [] := FunD.bindsN (kws := d_law_right01.kws K) (T.f_law_right01) fun _ _ _ _ _ _ us hl => match us, hl with | [_], _ => rfl
theorem Tx.f_law_constants {K : Fr'} {mg : Str → Option Value} (T : Tx K mg) : FunD K "_law_constants" "_law_constants" (defArgs st_law_constants) (defBody st_law_constants) (defScope st_law_constants) (d_law_constants.dvs K) (d_law_constants.kws K) (He.ga K "_law_constants") (fdOf K (He.ga K "_law_constants")) := T.c.def_ 12 (d := d_law_constants)
theorem Tx.k_law_constants {K : Fr'} {mg : Str → Option Value} (T : Tx K mg) : PySem.W.keepIn K (.ref (He.ga K "_law_constants")) = true := T.f_law_constants.kp
theorem Tx.b_law_constants {K : Fr'} {mg : Str → Option Value} (T : Tx K mg) : Binds K (fdOf K (He.ga K "_law_constants")) [] [] := FunD.bindsN (kws := d_law_constants.kws K) (T.f_law_constants) fun _ _ _ _ _ _ us hl => match us, hl with | [], _ => rfl
theorem Tx.f_law {K : Fr'} {mg : Str → Option Value} (T : Tx K mg) : FunD K "law" "law" (defArgs st_law) (defBody st_law) (defScope st_law) (d_law.dvs K) (d_law.kws K) (He.ga K "law") (fdOf K (He.ga K "law")) := T.c.def_ 13 (d := d_law)
theorem Tx.f_InvalidWord_init {K : Fr'} {mg : Str → Option Value} (T : Tx K mg) : FunD K "__init__" "InvalidWord.__init__" (defArgs st_InvalidWord_init) (defBody st_InvalidWord_init) (defScope st_InvalidWord_init) (d_InvalidWord_init.dvs K) (d_InvalidWord_init.kws K) (He.ma K (He.ga K "InvalidWord") "__init__") (fdOf K (He.ma K (He.ga K "InvalidWord") "__init__")) := T.c.def_ 14 (d := d_InvalidWord_init)
theorem Tx.b_InvalidWord_init {K : Fr'} {mg : Str → Option Value} (T : Tx K mg) : Binds K (fdOf K (He.ma K (He.ga K "InvalidWord") "__init__")) ["self", "given"] [] := FunD.bindsN (kws := d_InvalidWord_init.kws K) (T.f_InvalidWord_init) fun _ _ _ _ _ _ us hl => match us, hl with | [_, _], _ => rfl
theorem Tx.f_InvalidSigns_init {K : Fr'} {mg : Str → Option Value} (T : Tx K mg) : FunD K "__init__" "InvalidSigns.__init__" (defArgs st_InvalidSigns_init) (defBody st_InvalidSigns_init) (defScope st_InvalidSigns_init) (d_InvalidSigns_init.dvs K) (d_InvalidSigns_init.kws K) (He.ma K (He.ga K "InvalidSigns") "__init__") (fdOf K (He.ma K (He.ga K "InvalidSigns") "__init__")) := T.c.def_ 15 (d := d_InvalidSigns_init)
theorem Tx.b_InvalidSigns_init {K : Fr'} {mg : Str → Option Value} (T : Tx K mg) : Binds K (fdOf K (He.ma K (He.ga K "InvalidSigns") "__init__")) ["self", "given"] [] := FunD.bindsN (kws := d_InvalidSigns_init.kws K) (T.f_InvalidSigns_init) fun _ _ _ _ _ _ us hl => match us, hl with | [_, _], _ => rfl
theorem Tx.f_InvalidNumber_init {K : Fr'} {mg : Str → Option Value} (T : Tx K mg) : FunD K "__init__" "InvalidNumber.__init__" (defArgs st_InvalidNumber_init) (defBody st_InvalidNumber_init) (defScope st_InvalidNumber_init) (d_InvalidNumber_init.dvs K) (d_InvalidNumber_init.kws K) (He.ma K (He.ga K "InvalidNumber") "__init__") (fdOf K (He.ma K (He.ga K "InvalidNumber") "__init__")) := T.c.def_ 16 (d := d_InvalidNumber_init)
theorem Tx.b_InvalidNumber_init {K : Fr'} {mg : Str → Option Value} (T : Tx K mg) : Binds K (fdOf K (He.ma K (He.ga K "InvalidNumber") "__init__")) ["self", "given"] [] := FunD.bindsN (kws := d_InvalidNumber_init.kws K) (T.f_InvalidNumber_init) fun _ _ _ _ _ _ us hl => match us, hl with | [_, _], _ => rfl
theorem Tx.f_InvalidRound_init {K : Fr'} {mg : Str → Option Value} (T : Tx K mg) : FunD K "__init__" "InvalidRound.__init__" (defArgs st_InvalidRound_init) (defBody st_InvalidRound_init) (defScope st_InvalidRound_init) (d_InvalidRound_init.dvs K) (d_InvalidRound_init.kws K) (He.ma K (He.ga K "InvalidRound") "__init__") (fdOf K (He.ma K (He.ga K "InvalidRound") "__init__")) := T.c.def_ 17 (d := d_InvalidRound_init)
theorem Tx.b_InvalidRound_init {K : Fr'} {mg : Str → Option Value} (T : Tx K mg) : Binds K (fdOf K (He.ma K (He.ga K "InvalidRound") "__init__")) ["self", "given"] [] := FunD.bindsN (kws := d_InvalidRound_init.kws K) (T.f_InvalidRound_init) fun _ _ _ _ _ _ us hl => match us, hl with | [_, _], _ => rfl
theorem Tx.f_InvalidPlace_init {K : Fr'} {mg : Str → Option Value} (T : Tx K mg) : FunD K "__init__" "InvalidPlace.__init__" (defArgs st_InvalidPlace_init) (defBody st_InvalidPlace_init) (defScope st_InvalidPlace_init) (d_InvalidPlace_init.dvs K) (d_InvalidPlace_init.kws K) (He.ma K (He.ga K "InvalidPlace") "__init__") (fdOf K (He.ma K (He.ga K "InvalidPlace") "__init__")) := T.c.def_ 18 (d := d_InvalidPlace_init)
theorem Tx.b_InvalidPlace_init {K : Fr'} {mg : Str → Option Value} (T : Tx K mg) : Binds K (fdOf K (He.ma K (He.ga K "InvalidPlace") "__init__")) ["self", "given"] [] := FunD.bindsN (kws := d_InvalidPlace_init.kws K) (T.f_InvalidPlace_init) fun _ _ _ _ _ _ us hl => match us, hl with | [_, _], _ => rfl
theorem Tx.f_InvalidRow_init {K : Fr'} {mg : Str → Option Value} (T : Tx K mg) : FunD K "__init__" "InvalidRow.__init__" (defArgs st_InvalidRow_init) (defBody st_InvalidRow_init) (defScope st_InvalidRow_init) (d_InvalidRow_init.dvs K) (d_InvalidRow_init.kws K) (He.ma K (He.ga K "InvalidRow") "__init__") (fdOf K (He.ma K (He.ga K "InvalidRow") "__init__")) := T.c.def_ 19 (d := d_InvalidRow_init)
theorem Tx.b_InvalidRow_init {K : Fr'} {mg : Str → Option Value} (T : Tx K mg) : Binds K (fdOf K (He.ma K (He.ga K "InvalidRow") "__init__")) ["self", "given"] [] := FunD.bindsN (kws := d_InvalidRow_init.kws K) (T.f_InvalidRow_init) fun _ _ _ _ _ _ us hl => match us, hl with | [_, _], _ => rfl
theorem Tx.f_InvalidWish_init {K : Fr'} {mg : Str → Option Value} (T : Tx K mg) : FunD K "__init__" "InvalidWish.__init__" (defArgs st_InvalidWish_init) (defBody st_InvalidWish_init) (defScope st_InvalidWish_init) (d_InvalidWish_init.dvs K) (d_InvalidWish_init.kws K) (He.ma K (He.ga K "InvalidWish") "__init__") (fdOf K (He.ma K (He.ga K "InvalidWish") "__init__")) := T.c.def_ 20 (d := d_InvalidWish_init)
theorem Tx.b_InvalidWish_init {K : Fr'} {mg : Str → Option Value} (T : Tx K mg) : Binds K (fdOf K (He.ma K (He.ga K "InvalidWish") "__init__")) ["self", "given"] [] := FunD.bindsN (kws := d_InvalidWish_init.kws K) (T.f_InvalidWish_init) fun _ _ _ _ _ _ us hl => match us, hl with | [_, _], _ => rfl
theorem Tx.f_InvalidIndex_init {K : Fr'} {mg : Str → Option Value} (T : Tx K mg) : FunD K "__init__" "InvalidIndex.__init__" (defArgs st_InvalidIndex_init) (defBody st_InvalidIndex_init) (defScope st_InvalidIndex_init) (d_InvalidIndex_init.dvs K) (d_InvalidIndex_init.kws K) (He.ma K (He.ga K "InvalidIndex") "__init__") (fdOf K (He.ma K (He.ga K "InvalidIndex") "__init__")) := T.c.def_ 21 (d := d_InvalidIndex_init)
theorem Tx.b_InvalidIndex_init {K : Fr'} {mg : Str → Option Value} (T : Tx K mg) : Binds K (fdOf K (He.ma K (He.ga K "InvalidIndex") "__init__")) ["self", "given"] [] := FunD.bindsN (kws := d_InvalidIndex_init.kws K) (T.f_InvalidIndex_init) fun _ _ _ _ _ _ us hl => match us, hl with | [_, _], _ => rfl
theorem Tx.f_InvalidName_init {K : Fr'} {mg : Str → Option Value} (T : Tx K mg) : FunD K "__init__" "InvalidName.__init__" (defArgs st_InvalidName_init) (defBody st_InvalidName_init) (defScope st_InvalidName_init) (d_InvalidName_init.dvs K) (d_InvalidName_init.kws K) (He.ma K (He.ga K "InvalidName") "__init__") (fdOf K (He.ma K (He.ga K "InvalidName") "__init__")) := T.c.def_ 22 (d := d_InvalidName_init)
theorem Tx.b_InvalidName_init {K : Fr'} {mg : Str → Option Value} (T : Tx K mg) : Binds K (fdOf K (He.ma K (He.ga K "InvalidName") "__init__")) ["self", "given"] [] := FunD.bindsN (kws := d_InvalidName_init.kws K) (T.f_InvalidName_init) fun _ _ _ _ _ _ us hl => match us, hl with | [_, _], _ => rfl
theorem Tx.f_NotARing_init {K : Fr'} {mg : Str → Option Value} (T : Tx K mg) : FunD K "__init__" "NotARing.__init__" (defArgs st_NotARing_init) (defBody st_NotARing_init) (defScope st_NotARing_init) (d_NotARing_init.dvs K) (d_NotARing_init.kws K) (He.ma K (He.ga K "NotARing") "__init__") (fdOf K (He.ma K (He.ga K "NotARing") "__init__")) := T.c.def_ 23 (d := d_NotARing_init)
theorem Tx.b_NotARing_init {K : Fr'} {mg : Str → Option Value} (T : Tx K mg) : Binds K (fdOf K (He.ma K (He.ga K "NotARing") "__init__")) ["self", "given"] [] := FunD.bindsN (kws := d_NotARing_init.kws K) (T.f_NotARing_init) fun _ _ _ _ _ _ us hl => match us, hl with | [_, _], _ => rfl
theorem Tx.f_NotAKind_init {K : Fr'} {mg : Str → Option Value} (T : Tx K mg) : FunD K "__init__" "NotAKind.__init__" (defArgs st_NotAKind_init) (defBody st_NotAKind_init) (defScope st_NotAKind_init) (d_NotAKind_init.dvs K) (d_NotAKind_init.kws K) (He.ma K (He.ga K "NotAKind") "__init__") (fdOf K (He.ma K (He.ga K "NotAKind") "__init__")) := T.c.def_ 24 (d := d_NotAKind_init)
theorem Tx.b_NotAKind_init {K : Fr'} {mg : Str → Option Value} (T : Tx K mg) : Binds K (fdOf K (He.ma K (He.ga K "NotAKind") "__init__")) ["self", "given"] [] := FunD.bindsN (kws := d_NotAKind_init.kws K) (T.f_NotAKind_init) fun _ _ _ _ _ _ us hl => match us, hl with | [_, _], _ => rfl
theorem Tx.f_NotALoop_init {K : Fr'} {mg : Str → Option Value} (T : Tx K mg) : FunD K "__init__" "NotALoop.__init__" (defArgs st_NotALoop_init) (defBody st_NotALoop_init) (defScope st_NotALoop_init) (d_NotALoop_init.dvs K) (d_NotALoop_init.kws K) (He.ma K (He.ga K "NotALoop") "__init__") (fdOf K (He.ma K (He.ga K "NotALoop") "__init__")) := T.c.def_ 25 (d := d_NotALoop_init)
theorem Tx.b_NotALoop_init {K : Fr'} {mg : Str → Option Value} (T : Tx K mg) : Binds K (fdOf K (He.ma K (He.ga K "NotALoop") "__init__")) ["self", "given"] [] := FunD.bindsN (kws := d_NotALoop_init.kws K) (T.f_NotALoop_init) fun _ _ _ _ _ _ us hl => match us, hl with | [_, _], _ => rfl
theorem Tx.f_OtherSigns_init {K : Fr'} {mg : Str → Option Value} (T : Tx K mg) : FunD K "__init__" "OtherSigns.__init__" (defArgs st_OtherSigns_init) (defBody st_OtherSigns_init) (defScope st_OtherSigns_init) (d_OtherSigns_init.dvs K) (d_OtherSigns_init.kws K) (He.ma K (He.ga K "OtherSigns") "__init__") (fdOf K (He.ma K (He.ga K "OtherSigns") "__init__")) := T.c.def_ 26 (d := d_OtherSigns_init)
theorem Tx.b_OtherSigns_init {K : Fr'} {mg : Str → Option Value} (T : Tx K mg) : Binds K (fdOf K (He.ma K (He.ga K "OtherSigns") "__init__")) ["self", "given"] [] := FunD.bindsN (kws := d_OtherSigns_init.kws K) (T.f_OtherSigns_init) fun _ _ _ _ _ _ us hl => match us, hl with | [_, _], _ => rfl
theorem Tx.f_InvalidPairs_init {K : Fr'} {mg : Str → Option Value} (T : Tx K mg) : FunD K "__init__" "InvalidPairs.__init__" (defArgs st_InvalidPairs_init) (defBody st_InvalidPairs_init) (defScope st_InvalidPairs_init) (d_InvalidPairs_init.dvs K) (d_InvalidPairs_init.kws K) (He.ma K (He.ga K "InvalidPairs") "__init__") (fdOf K (He.ma K (He.ga K "InvalidPairs") "__init__")) := T.c.def_ 27 (d := d_InvalidPairs_init)
theorem Tx.b_InvalidPairs_init {K : Fr'} {mg : Str → Option Value} (T : Tx K mg) : Binds K (fdOf K (He.ma K (He.ga K "InvalidPairs") "__init__")) ["self", "index"] [] := FunD.bindsN (kws := d_InvalidPairs_init.kws K) (T.f_InvalidPairs_init) fun _ _ _ _ _ _ us hl => match us, hl with | [_, _], _ => rfl
theorem Tx.f_InvalidStates_init {K : Fr'} {mg : Str → Option Value} (T : Tx K mg) : FunD K "__init__" "InvalidStates.__init__" (defArgs st_InvalidStates_init) (defBody st_InvalidStates_init) (defScope st_InvalidStates_init) (d_InvalidStates_init.dvs K) (d_InvalidStates_init.kws K) (He.ma K (He.ga K "InvalidStates") "__init__") (fdOf K (He.ma K (He.ga K "InvalidStates") "__init__")) := T.c.def_ 28 (d := d_InvalidStates_init)
theorem Tx.b_InvalidStates_init {K : Fr'} {mg : Str → Option Value} (T : Tx K mg) : Binds K (fdOf K (He.ma K (He.ga K "InvalidStates") "__init__")) ["self", "index"] [] := FunD.bindsN (kws := d_InvalidStates_init.kws K) (T.f_InvalidStates_init) fun _ _ _ _ _ _ us hl => match us, hl with | [_, _], _ => rfl
theorem Tx.f_InvalidRows_init {K : Fr'} {mg : Str → Option Value} (T : Tx K mg) : FunD K "__init__" "InvalidRows.__init__" (defArgs st_InvalidRows_init) (defBody st_InvalidRows_init) (defScope st_InvalidRows_init) (d_InvalidRows_init.dvs K) (d_InvalidRows_init.kws K) (He.ma K (He.ga K "InvalidRows") "__init__") (fdOf K (He.ma K (He.ga K "InvalidRows") "__init__")) := T.c.def_ 29 (d := d_InvalidRows_init)
theorem Tx.b_InvalidRows_init {K : Fr'} {mg : Str → Option Value} (T : Tx K mg) : Binds K (fdOf K (He.ma K (He.ga K "InvalidRows") "__init__")) ["self", "index"] [] := FunD.bindsN (kws := d_InvalidRows_init.kws K) (T.f_InvalidRows_init) fun _ _ _ _ _ _ us hl => match us, hl with | [_, _], _ => rfl
theorem Tx.f_InvalidTurns_init {K : Fr'} {mg : Str → Option Value} (T : Tx K mg) : FunD K "__init__" "InvalidTurns.__init__" (defArgs st_InvalidTurns_init) (defBody st_InvalidTurns_init) (defScope st_InvalidTurns_init) (d_InvalidTurns_init.dvs K) (d_InvalidTurns_init.kws K) (He.ma K (He.ga K "InvalidTurns") "__init__") (fdOf K (He.ma K (He.ga K "InvalidTurns") "__init__")) := T.c.def_ 30 (d := d_InvalidTurns_init)
theorem Tx.b_InvalidTurns_init {K : Fr'} {mg : Str → Option Value} (T : Tx K mg) : Binds K (fdOf K (He.ma K (He.ga K "InvalidTurns") "__init__")) ["self", "index"] [] := FunD.bindsN (kws := d_InvalidTurns_init.kws K) (T.f_InvalidTurns_init) fun _ _ _ _ _ _ us hl => match us, hl with | [_, _], _ => rfl
theorem Tx.f_InvalidChanges_init {K : Fr'} {mg : Str → Option Value} (T : Tx K mg) : FunD K "__init__" "InvalidChanges.__init__" (defArgs st_InvalidChanges_init) (defBody st_InvalidChanges_init) (defScope st_InvalidChanges_init) (d_InvalidChanges_init.dvs K) (d_InvalidChanges_init.kws K) (He.ma K (He.ga K "InvalidChanges") "__init__") (fdOf K (He.ma K (He.ga K "InvalidChanges") "__init__")) := T.c.def_ 31 (d := d_InvalidChanges_init)
theorem Tx.b_InvalidChanges_init {K : Fr'} {mg : Str → Option Value} (T : Tx K mg) : Binds K (fdOf K (He.ma K (He.ga K "InvalidChanges") "__init__")) ["self", "index"] [] := FunD.bindsN (kws := d_InvalidChanges_init.kws K) (T.f_InvalidChanges_init) fun _ _ _ _ _ _ us hl => match us, hl with | [_, _], _ => rfl
theorem Tx.f_UnknownName_init {K : Fr'} {mg : Str → Option Value} (T : Tx K mg) : FunD K "__init__" "UnknownName.__init__" (defArgs st_UnknownName_init) (defBody st_UnknownName_init) (defScope st_UnknownName_init) (d_UnknownName_init.dvs K) (d_UnknownName_init.kws K) (He.ma K (He.ga K "UnknownName") "__init__") (fdOf K (He.ma K (He.ga K "UnknownName") "__init__")) := T.c.def_ 32 (d := d_UnknownName_init)
theorem Tx.b_UnknownName_init {K : Fr'} {mg : Str → Option Value} (T : Tx K mg) : Binds K (fdOf K (He.ma K (He.ga K "UnknownName") "__init__")) ["self", "given"] [] := FunD.bindsN (kws := d_UnknownName_init.kws K) (T.f_UnknownName_init) fun _ _ _ _ _ _ us hl => match us, hl with | [_, _], _ => rfl
theorem Tx.f_InUse_init {K : Fr'} {mg : Str → Option Value} (T : Tx K mg) : FunD K "__init__" "InUse.__init__" (defArgs st_InUse_init) (defBody st_InUse_init) (defScope st_InUse_init) (d_InUse_init.dvs K) (d_InUse_init.kws K) (He.ma K (He.ga K "InUse") "__init__") (fdOf K (He.ma K (He.ga K "InUse") "__init__")) := T.c.def_ 33 (d := d_InUse_init)
theorem Tx.b_InUse_init {K : Fr'} {mg : Str → Option Value} (T : Tx K mg) : Binds K (fdOf K (He.ma K (He.ga K "InUse") "__init__")) ["self", "index"] [] := FunD.bindsN (kws := d_InUse_init.kws K) (T.f_InUse_init) fun _ _ _ _ _ _ us hl => match us, hl with | [_, _], _ => rfl
theorem Tx.f_TooMany_init {K : Fr'} {mg : Str → Option Value} (T : Tx K mg) : FunD K "__init__" "TooMany.__init__" (defArgs st_TooMany_init) (defBody st_TooMany_init) (defScope st_TooMany_init) (d_TooMany_init.dvs K) (d_TooMany_init.kws K) (He.ma K (He.ga K "TooMany") "__init__") (fdOf K (He.ma K (He.ga K "TooMany") "__init__")) := T.c.def_ 34 (d := d_TooMany_init)
theorem Tx.b_TooMany_init {K : Fr'} {mg : Str → Option Value} (T : Tx K mg) : Binds K (fdOf K (He.ma K (He.ga K "TooMany") "__init__")) ["self", "limit"] [] := FunD.bindsN (kws := d_TooMany_init.kws K) (T.f_TooMany_init) fun _ _ _ _ _ _ us hl => match us, hl with | [_, _], _ => rfl
theorem Tx.f_NoRing_init {K : Fr'} {mg : Str → Option Value} (T : Tx K mg) : FunD K "__init__" "NoRing.__init__" (defArgs st_NoRing_init) (defBody st_NoRing_init) (defScope st_NoRing_init) (d_NoRing_init.dvs K) (d_NoRing_init.kws K) (He.ma K (He.ga K "NoRing") "__init__") (fdOf K (He.ma K (He.ga K "NoRing") "__init__")) := T.c.def_ 35 (d := d_NoRing_init)
theorem Tx.b_NoRing_init {K : Fr'} {mg : Str → Option Value} (T : Tx K mg) : Binds K (fdOf K (He.ma K (He.ga K "NoRing") "__init__")) ["self"] [] := FunD.bindsN (kws := d_NoRing_init.kws K) (T.f_NoRing_init) fun _ _ _ _ _ _ us hl => match us, hl with | [_], _ => rfl
theorem Tx.f_NothingToUndo_init {K : Fr'} {mg : Str → Option Value} (T : Tx K mg) : FunD K "__init__" "NothingToUndo.__init__" (defArgs st_NothingToUndo_init) (defBody st_NothingToUndo_init) (defScope st_NothingToUndo_init) (d_NothingToUndo_init.dvs K) (d_NothingToUndo_init.kws K) (He.ma K (He.ga K "NothingToUndo") "__init__") (fdOf K (He.ma K (He.ga K "NothingToUndo") "__init__")) := T.c.def_ 36 (d := d_NothingToUndo_init)
theorem Tx.b_NothingToUndo_init {K : Fr'} {mg : Str → Option Value} (T : Tx K mg) : Binds K (fdOf K (He.ma K (He.ga K "NothingToUndo") "__init__")) ["self"] [] := FunD.bindsN (kws := d_NothingToUndo_init.kws K) (T.f_NothingToUndo_init) fun _ _ _ _ _ _ us hl => match us, hl with | [_], _ => rfl
theorem Tx.f_Broken_init {K : Fr'} {mg : Str → Option Value} (T : Tx K mg) : FunD K "__init__" "Broken.__init__" (defArgs st_Broken_init) (defBody st_Broken_init) (defScope st_Broken_init) (d_Broken_init.dvs K) (d_Broken_init.kws K) (He.ma K (He.ga K "Broken") "__init__") (fdOf K (He.ma K (He.ga K "Broken") "__init__")) := T.c.def_ 37 (d := d_Broken_init)
theorem Tx.b_Broken_init {K : Fr'} {mg : Str → Option Value} (T : Tx K mg) : Binds K (fdOf K (He.ma K (He.ga K "Broken") "__init__")) ["self", "index"] [] := FunD.bindsN (kws := d_Broken_init.kws K) (T.f_Broken_init) fun _ _ _ _ _ _ us hl => match us, hl with | [_, _], _ => rfl
theorem Tx.kx_InvalidWord {K : Fr'} {mg : Str → Option Value} (T : Tx K mg) : ∃ g, KBn K (fdOf K (He.ma K (He.ga K "InvalidWord") "__init__")) ["self", "given"] 1 (["given"] : List Str) g (fun vs zs => selG [(0, 0), (2, 0)] vs [] [] zs) := kbnN (kws := d_InvalidWord_init.kws K) (T.f_InvalidWord_init) 1 (["given"] : List Str) [(0, 0), (2, 0)] fun _ _ _ _ _ _ us ws h1 h2 => match us, ws, h1, h2 with | [_], [_], _, _ => rfl
theorem Tx.kx_InvalidSigns {K : Fr'} {mg : Str → Option Value} (T : Tx K mg) : ∃ g, KBn K (fdOf K (He.ma K (He.ga K "InvalidSigns") "__init__")) ["self", "given"] 1 (["given"] : List Str) g (fun vs zs => selG [(0, 0), (2, 0)] vs [] [] zs) := kbnN (kws := d_InvalidSigns_init.kws K) (T.f_InvalidSigns_init) 1 (["given"] : List Str) [(0, 0), (2, 0)] fun _ _ _ _ _ _ us ws h1 h2 => match us, ws, h1, h2 with | [_], [_], _, _ => rfl
theorem Tx.kx_InvalidNumber {K : Fr'} {mg : Str → Option Value} (T : Tx K mg) : ∃ g, KBn K (fdOf K (He.ma K (He.ga K "InvalidNumber") "__init__")) ["self", "given"] 1 (["given"] : List Str) g (fun vs zs => selG [(0, 0), (2, 0)] vs [] [] zs) := kbnN (kws := d_InvalidNumber_init.kws K) (T.f_InvalidNumber_init) 1 (["given"] : List Str) [(0, 0), (2, 0)] fun _ _ _ _ _ _ us ws h1 h2 => match us, ws, h1, h2 with | [_], [_], _, _ => rfl
theorem Tx.kx_InvalidRound {K : Fr'} {mg : Str → Option Value} (T : Tx K mg) : ∃ g, KBn K (fdOf K (He.ma K (He.ga K "InvalidRound") "__init__")) ["self", "given"] 1 (["given"] : List Str) g (fun vs zs => selG [(0, 0), (2, 0)] vs [] [] zs) := kbnN (kws := d_InvalidRound_init.kws K) (T.f_InvalidRound_init) 1 (["given"] : List Str) [(0, 0), (2, 0)] fun _ _ _ _ _ _ us ws h1 h2 => match us, ws, h1, h2 with | [_], [_], _, _ => rfl
theorem Tx.kx_InvalidPlace {K : Fr'} {mg : Str → Option Value} (T : Tx K mg) : ∃ g, KBn K (fdOf K (He.ma K (He.ga K "InvalidPlace") "__init__")) ["self", "given"] 1 (["given"] : List Str) g (fun vs zs => selG [(0, 0), (2, 0)] vs [] [] zs) := kbnN (kws := d_InvalidPlace_init.kws K) (T.f_InvalidPlace_init) 1 (["given"] : List Str) [(0, 0), (2, 0)] fun _ _ _ _ _ _ us ws h1 h2 => match us, ws, h1, h2 with | [_], [_], _, _ => rfl
theorem Tx.kx_InvalidRow {K : Fr'} {mg : Str → Option Value} (T : Tx K mg) : ∃ g, KBn K (fdOf K (He.ma K (He.ga K "InvalidRow") "__init__")) ["self", "given"] 1 (["given"] : List Str) g (fun vs zs => selG [(0, 0), (2, 0)] vs [] [] zs) := kbnN (kws := d_InvalidRow_init.kws K) (T.f_InvalidRow_init) 1 (["given"] : List Str) [(0, 0), (2, 0)] fun _ _ _ _ _ _ us ws h1 h2 => match us, ws, h1, h2 with | [_], [_], _, _ => rfl
theorem Tx.kx_InvalidWish {K : Fr'} {mg : Str → Option Value} (T : Tx K mg) : ∃ g, KBn K (fdOf K (He.ma K (He.ga K "InvalidWish") "__init__")) ["self", "given"] 1 (["given"] : List Str) g (fun vs zs => selG [(0, 0), (2, 0)] vs [] [] zs) := kbnN (kws := d_InvalidWish_init.kws K) (T.f_InvalidWish_init) 1 (["given"] : List Str) [(0, 0), (2, 0)] fun _ _ _ _ _ _ us ws h1 h2 => match us, ws, h1, h2 with | [_], [_], _, _ => rfl
theorem Tx.kx_InvalidIndex {K : Fr'} {mg : Str → Option Value} (T : Tx K mg) : ∃ g, KBn K (fdOf K (He.ma K (He.ga K "InvalidIndex") "__init__")) ["self", "given"] 1 (["given"] : List Str) g (fun vs zs => selG [(0, 0), (2, 0)] vs [] [] zs) := kbnN (kws := d_InvalidIndex_init.kws K) (T.f_InvalidIndex_init) 1 (["given"] : List Str) [(0, 0), (2, 0)] fun _ _ _ _ _ _ us ws h1 h2 => match us, ws, h1, h2 with | [_], [_], _, _ => rfl
theorem Tx.kx_InvalidName {K : Fr'} {mg : Str → Option Value} (T : Tx K mg) : ∃ g, KBn K (fdOf K (He.ma K (He.ga K "InvalidName") "__init__")) ["self", "given"] 1 (["given"] : List Str) g (fun vs zs => selG [(0, 0), (2, 0)] vs [] [] zs) := kbnN (kws := d_InvalidName_init.kws K) (T.f_InvalidName_init) 1 (["given"] : List Str) [(0, 0), (2, 0)] fun _ _ _ _ _ _ us ws h1 h2 => match us, ws, h1, h2 with | [_], [_], _, _ => rfl
theorem Tx.kx_NotARing {K : Fr'} {mg : Str → Option Value} (T : Tx K mg) : ∃ g, KBn K (fdOf K (He.ma K (He.ga K "NotARing") "__init__")) ["self", "given"] 1 (["given"] : List Str) g (fun vs zs => selG [(0, 0), (2, 0)] vs [] [] zs) := kbnN (kws := d_NotARing_init.kws K) (T.f_NotARing_init) 1 (["given"] : List Str) [(0, 0), (2, 0)] fun _ _ _ _ _ _ us ws h1 h2 => match us, ws, h1, h2 with | [_], [_], _, _ => rfl
theorem Tx.kx_NotAKind {K : Fr'} {mg : Str → Option Value} (T : Tx K mg) : ∃ g, KBn K (fdOf K (He.ma K (He.ga K "NotAKind") "__init__")) ["self", "given"] 1 (["given"] : List Str) g (fun vs zs => selG [(0, 0), (2, 0)] vs [] [] zs) := kbnN (kws := d_NotAKind_init.kws K) (T.f_NotAKind_init) 1 (["given"] : List Str) [(0, 0), (2, 0)] fun _ _ _ _ _ _ us ws h1 h2 => match us, ws, h1, h2 with | [_], [_], _, _ => rfl
theorem Tx.kx_NotALoop {K : Fr'} {mg : Str → Option Value} (T : Tx K mg) : ∃ g, KBn K (fdOf K (He.ma K (He.ga K "NotALoop") "__init__")) ["self", "given"] 1 (["given"] : List Str) g (fun vs zs => selG [(0, 0), (2, 0)] vs [] [] zs) := kbnN (kws := d_NotALoop_init.kws K) (T.f_NotALoop_init) 1 (["given"] : List Str) [(0, 0), (2, 0)] fun _ _ _ _ _ _ us ws h1 h2 => match us, ws, h1, h2 with | [_], [_], _, _ => rfl
theorem Tx.kx_OtherSigns {K : Fr'} {mg : Str → Option Value} (T : Tx K mg) : ∃ g, KBn K (fdOf K (He.ma K (He.ga K "OtherSigns") "__init__")) ["self", "given"] 1 (["given"] : List Str) g (fun vs zs => selG [(0, 0), (2, 0)] vs [] [] zs) := kbnN (kws := d_OtherSigns_init.kws K) (T.f_OtherSigns_init) 1 (["given"] : List Str) [(0, 0), (2, 0)] fun _ _ _ _ _ _ us ws h1 h2 => match us, ws, h1, h2 with | [_], [_], _, _ => rfl
theorem Tx.kx_InvalidPairs {K : Fr'} {mg : Str → Option Value} (T : Tx K mg) : ∃ g, KBn K (fdOf K (He.ma K (He.ga K "InvalidPairs") "__init__")) ["self", "index"] 1 (["index"] : List Str) g (fun vs zs => selG [(0, 0), (2, 0)] vs [] [] zs) := kbnN (kws := d_InvalidPairs_init.kws K) (T.f_InvalidPairs_init) 1 (["index"] : List Str) [(0, 0), (2, 0)] fun _ _ _ _ _ _ us ws h1 h2 => match us, ws, h1, h2 with | [_], [_], _, _ => rfl
theorem Tx.kx_InvalidStates {K : Fr'} {mg : Str → Option Value} (T : Tx K mg) : ∃ g, KBn K (fdOf K (He.ma K (He.ga K "InvalidStates") "__init__")) ["self", "index"] 1 (["index"] : List Str) g (fun vs zs => selG [(0, 0), (2, 0)] vs [] [] zs) := kbnN (kws := d_InvalidStates_init.kws K) (T.f_InvalidStates_init) 1 (["index"] : List Str) [(0, 0), (2, 0)] fun _ _ _ _ _ _ us ws h1 h2 => match us, ws, h1, h2 with | [_], [_], _, _ => rfl
theorem Tx.kx_InvalidRows {K : Fr'} {mg : Str → Option Value} (T : Tx K mg) : ∃ g, KBn K (fdOf K (He.ma K (He.ga K "InvalidRows") "__init__")) ["self", "index"] 1 (["index"] : List Str) g (fun vs zs => selG [(0, 0), (2, 0)] vs [] [] zs) := kbnN (kws := d_InvalidRows_init.kws K) (T.f_InvalidRows_init) 1 (["index"] : List Str) [(0, 0), (2, 0)] fun _ _ _ _ _ _ us ws h1 h2 => match us, ws, h1, h2 with | [_], [_], _, _ => rfl
theorem Tx.kx_InvalidTurns {K : Fr'} {mg : Str → Option Value} (T : Tx K mg) : ∃ g, KBn K (fdOf K (He.ma K (He.ga K "InvalidTurns") "__init__")) ["self", "index"] 1 (["index"] : List Str) g (fun vs zs => selG [(0, 0), (2, 0)] vs [] [] zs) := kbnN (kws := d_InvalidTurns_init.kws K) (T.f_InvalidTurns_init) 1 (["index"] : List Str) [(0, 0), (2, 0)] fun _ _ _ _ _ _ us ws h1 h2 => match us, ws, h1, h2 with | [_], [_], _, _ => rfl
theorem Tx.kx_InvalidChanges {K : Fr'} {mg : Str → Option Value} (T : Tx K mg) : ∃ g, KBn K (fdOf K (He.ma K (He.ga K "InvalidChanges") "__init__")) ["self", "index"] 1 (["index"] : List Str) g (fun vs zs => selG [(0, 0), (2, 0)] vs [] [] zs) := kbnN (kws := d_InvalidChanges_init.kws K) (T.f_InvalidChanges_init) 1 (["index"] : List Str) [(0, 0), (2, 0)] fun _ _ _ _ _ _ us ws h1 h2 => match us, ws, h1, h2 with | [_], [_], _, _ => rfl
theorem Tx.kx_UnknownName {K : Fr'} {mg : Str → Option Value} (T : Tx K mg) : ∃ g, KBn K (fdOf K (He.ma K (He.ga K "UnknownName") "__init__")) ["self", "given"] 1 (["given"] : List Str) g (fun vs zs => selG [(0, 0), (2, 0)] vs [] [] zs) := kbnN (kws := d_UnknownName_init.kws K) (T.f_UnknownName_init) 1 (["given"] : List Str) [(0, 0), (2, 0)] fun _ _ _ _ _ _ us ws h1 h2 => match us, ws, h1, h2 with | [_], [_], _, _ => rfl
theorem Tx.kx_InUse {K : Fr'} {mg : Str → Option Value} (T : Tx K mg) : ∃ g, KBn K (fdOf K (He.ma K (He.ga K "InUse") "__init__")) ["self", "index"] 1 (["index"] : List Str) g (fun vs zs => selG [(0, 0), (2, 0)] vs [] [] zs) := kbnN (kws := d_InUse_init.kws K) (T.f_InUse_init) 1 (["index"] : List Str) [(0, 0), (2, 0)] fun _ _ _ _ _ _ us ws h1 h2 => match us, ws, h1, h2 with | [_], [_], _, _ => rfl
theorem Tx.kx_TooMany {K : Fr'} {mg : Str → Option Value} (T : Tx K mg) : ∃ g, KBn K (fdOf K (He.ma K (He.ga K "TooMany") "__init__")) ["self", "limit"] 1 (["limit"] : List Str) g (fun vs zs => selG [(0, 0), (2, 0)] vs [] [] zs) := kbnN (kws := d_TooMany_init.kws K) (T.f_TooMany_init) 1 (["limit"] : List Str) [(0, 0), (2, 0)] fun _ _ _ _ _ _ us ws h1 h2 => match us, ws, h1, h2 with | [_], [_], _, _ => rfl
theorem Tx.kx_Broken {K : Fr'} {mg : Str → Option Value} (T : Tx K mg) : ∃ g, KBn K (fdOf K (He.ma K (He.ga K "Broken") "__init__")) ["self", "index"] 1 (["index"] : List Str) g (fun vs zs => selG [(0, 0), (2, 0)] vs [] [] zs) := kbnN (kws := d_Broken_init.kws K) (T.f_Broken_init) 1 (["index"] : List Str) [(0, 0), (2, 0)] fun _ _ _ _ _ _ us ws h1 h2 => match us, ws, h1, h2 with | [_], [_], _, _ => rfl
theorem sc_InvalidWord_init : FnScope ["self", "given"] ["self", "given"] (defScope st_InvalidWord_init) := ⟨rfl, rfl, rfl, by decide +kernel, rfl, by decide +kernel, by decide +kernel⟩
theorem sc_InvalidSigns_init : FnScope ["self", "given"] ["self", "given"] (defScope st_InvalidSigns_init) := ⟨rfl, rfl, rfl, by decide +kernel, rfl, by decide +kernel, by decide +kernel⟩
theorem sc_InvalidNumber_init : FnScope ["self", "given"] ["self", "given"] (defScope st_InvalidNumber_init) := ⟨rfl, rfl, rfl, by decide +kernel, rfl, by decide +kernel, by decide +kernel⟩
theorem sc_InvalidRound_init : FnScope ["self", "given"] ["self", "given"] (defScope st_InvalidRound_init) := ⟨rfl, rfl, rfl, by decide +kernel, rfl, by decide +kernel, by decide +kernel⟩
theorem sc_InvalidPlace_init : FnScope ["self", "given"] ["self", "given"] (defScope st_InvalidPlace_init) := ⟨rfl, rfl, rfl, by decide +kernel, rfl, by decide +kernel, by decide +kernel⟩
theorem sc_InvalidRow_init : FnScope ["self", "given"] ["self", "given"] (defScope st_InvalidRow_init) := ⟨rfl, rfl, rfl, by decide +kernel, rfl, by decide +kernel, by decide +kernel⟩
theorem sc_InvalidWish_init : FnScope ["self", "given"] ["self", "given"] (defScope st_InvalidWish_init) := ⟨rfl, rfl, rfl, by decide +kernel, rfl, by decide +kernel, by decide +kernel⟩
theorem sc_InvalidIndex_init : FnScope ["self", "given"] ["self", "given"] (defScope st_InvalidIndex_init) := ⟨rfl, rfl, rfl, by decide +kernel, rfl, by decide +kernel, by decide +kernel⟩
theorem sc_InvalidName_init : FnScope ["self", "given"] ["self", "given"] (defScope st_InvalidName_init) := ⟨rfl, rfl, rfl, by decide +kernel, rfl, by decide +kernel, by decide +kernel⟩
theorem sc_NotARing_init : FnScope ["self", "given"] ["self", "given"] (defScope st_NotARing_init) := ⟨rfl, rfl, rfl, by decide +kernel, rfl, by decide +kernel, by decide +kernel⟩
theorem sc_NotAKind_init : FnScope ["self", "given"] ["self", "given"] (defScope st_NotAKind_init) := ⟨rfl, rfl, rfl, by decide +kernel, rfl, by decide +kernel, by decide +kernel⟩
theorem sc_NotALoop_init : FnScope ["self", "given"] ["self", "given"] (defScope st_NotALoop_init) := ⟨rfl, rfl, rfl, by decide +kernel, rfl, by decide +kernel, by decide +kernel⟩
theorem sc_OtherSigns_init : FnScope ["self", "given"] ["self", "given"] (defScope st_OtherSigns_init) := ⟨rfl, rfl, rfl, by decide +kernel, rfl, by decide +kernel, by decide +kernel⟩
theorem sc_InvalidPairs_init : FnScope ["self", "index"] ["self", "index"] (defScope st_InvalidPairs_init) := ⟨rfl, rfl, rfl, by decide +kernel, rfl, by decide +kernel, by decide +kernel⟩
theorem sc_InvalidStates_init : FnScope ["self", "index"] ["self", "index"] (defScope st_InvalidStates_init) := ⟨rfl, rfl, rfl, by decide +kernel, rfl, by decide +kernel, by decide +kernel⟩
theorem sc_InvalidRows_init : FnScope ["self", "index"] ["self", "index"] (defScope st_InvalidRows_init) := ⟨rfl, rfl, rfl, by decide +kernel, rfl, by decide +kernel, by decide +kernel⟩
theorem sc_InvalidTurns_init : FnScope ["self", "index"] ["self", "index"] (defScope st_InvalidTurns_init) := ⟨rfl, rfl, rfl, by decide +kernel, rfl, by decide +kernel, by decide +kernel⟩
theorem sc_InvalidChanges_init : FnScope ["self", "index"] ["self", "index"] (defScope st_InvalidChanges_init) := ⟨rfl, rfl, rfl, by decide +kernel, rfl, by decide +kernel, by decide +kernel⟩
theorem sc_UnknownName_init : FnScope ["self", "given"] ["self", "given"] (defScope st_UnknownName_init) := ⟨rfl, rfl, rfl, by decide +kernel, rfl, by decide +kernel, by decide +kernel⟩
theorem sc_InUse_init : FnScope ["self", "index"] ["self", "index"] (defScope st_InUse_init) := ⟨rfl, rfl, rfl, by decide +kernel, rfl, by decide +kernel, by decide +kernel⟩
theorem sc_TooMany_init : FnScope ["self", "limit"] ["self", "limit"] (defScope st_TooMany_init) := ⟨rfl, rfl, rfl, by decide +kernel, rfl, by decide +kernel, by decide +kernel⟩
theorem sc_NoRing_init : FnScope ["self"] ["self"] (defScope st_NoRing_init) := ⟨rfl, rfl, rfl, by decide +kernel, rfl, by decide +kernel, by decide +kernel⟩
theorem sc_NothingToUndo_init : FnScope ["self"] ["self"] (defScope st_NothingToUndo_init) := ⟨rfl, rfl, rfl, by decide +kernel, rfl, by decide +kernel, by decide +kernel⟩
theorem sc_Broken_init : FnScope ["self", "index"] ["self", "index"] (defScope st_Broken_init) := ⟨rfl, rfl, rfl, by decide +kernel, rfl, by decide +kernel, by decide +kernel⟩
section
variable {P : Program} {w : World} {K : Fr'} {mg : Str → Option Value} {base : Heap}
theorem ok_InvalidWord_init (T : Tx K mg) : FnOk P w K mg base CX0 1 (He.ma K (He.ga K "InvalidWord") "__init__") (fdOf K (He.ma K (He.ga K "InvalidWord") "__init__")) ["self", "given"] (sp_exc K (He.ga K "InvalidWord") "given") := by
  have sc := sc_InvalidWord_init
  refine T.f_InvalidWord_init.ok sc (fun vs H Q E h => ?_) (fun cdv A outer s H vs Q E hr h => ⟨t_exc K "given", PSs.nox ?_, pure_exc rfl h⟩)
  · obtain ⟨_, _, rfl, _⟩ := h
    rfl
  · exact (pss_one (ps_ost (pv 0) (pv 1)))
theorem ok_InvalidSigns_init (T : Tx K mg) : FnOk P w K mg base CX0 1 (He.ma K (He.ga K "InvalidSigns") "__init__") (fdOf K (He.ma K (He.ga K "InvalidSigns") "__init__")) ["self", "given"] (sp_exc K (He.ga K "InvalidSigns") "given") := by
  have sc := sc_InvalidSigns_init
  refine T.f_InvalidSigns_init.ok sc (fun vs H Q E h => ?_) (fun cdv A outer s H vs Q E hr h => ⟨t_exc K "given", PSs.nox ?_, pure_exc rfl h⟩)
  · obtain ⟨_, _, rfl, _⟩ := h
    rfl
  · exact (pss_one (ps_ost (pv 0) (pv 1)))
theorem ok_InvalidNumber_init (T : Tx K mg) : FnOk P w K mg base CX0 1 (He.ma K (He.ga K "InvalidNumber") "__init__") (fdOf K (He.ma K (He.ga K "InvalidNumber") "__init__")) ["self", "given"] (sp_exc K (He.ga K "InvalidNumber") "given") := by
  have sc := sc_InvalidNumber_init
  refine T.f_InvalidNumber_init.ok sc (fun vs H Q E h => ?_) (fun cdv A outer s H vs Q E hr h => ⟨t_exc K "given", PSs.nox ?_, pure_exc rfl h⟩)
  · obtain ⟨_, _, rfl, _⟩ := h
    rfl
  · exact (pss_one (ps_ost (pv 0) (pv 1)))
theorem ok_InvalidRound_init (T : Tx K mg) : FnOk P w K mg base CX0 1 (He.ma K (He.ga K "InvalidRound") "__init__") (fdOf K (He.ma K (He.ga K "InvalidRound") "__init__")) ["self", "given"] (sp_exc K (He.ga K "InvalidRound") "given") := by
  have sc := sc_InvalidRound_init
  refine T.f_InvalidRound_init.ok sc (fun vs H Q E h => ?_) (fun cdv A outer s H vs Q E hr h => ⟨t_exc K "given", PSs.nox ?_, pure_exc rfl h⟩)
  · obtain ⟨_, _, rfl, _⟩ := h
    rfl
  · exact (pss_one (ps_ost (pv 0) (pv 1)))
theorem ok_InvalidPlace_init (T : Tx K mg) : FnOk P w K mg base CX0 1 (He.ma K (He.ga K "InvalidPlace") "__init__") (fdOf K (He.ma K (He.ga K "InvalidPlace") "__init__")) ["self", "given"] (sp_exc K (He.ga K "InvalidPlace") "given") := by
  have sc := sc_InvalidPlace_init
  refine T.f_InvalidPlace_init.ok sc (fun vs H Q E h => ?_) (fun cdv A outer s H vs Q E hr h => ⟨t_exc K "given", PSs.nox ?_, pure_exc rfl h⟩)
  · obtain ⟨_, _, rfl, _⟩ := h
    rfl
  · exact (pss_one (ps_ost (pv 0) (pv 1)))
theorem ok_InvalidRow_init (T : Tx K mg) : FnOk P w K mg base CX0 1 (He.ma K (He.ga K "InvalidRow") "__init__") (fdOf K (He.ma K (He.ga K "InvalidRow") "__init__")) ["self", "given"] (sp_exc K (He.ga K "InvalidRow") "given") := by
  have sc := sc_InvalidRow_init
  refine T.f_InvalidRow_init.ok sc (fun vs H Q E h => ?_) (fun cdv A outer s H vs Q E hr h => ⟨t_exc K "given", PSs.nox ?_, pure_exc rfl h⟩)
  · obtain ⟨_, _, rfl, _⟩ := h
    rfl
  · exact (pss_one (ps_ost (pv 0) (pv 1)))
theorem ok_InvalidWish_init (T : Tx K mg) : FnOk P w K mg base CX0 1 (He.ma K (He.ga K "InvalidWish") "__init__") (fdOf K (He.ma K (He.ga K "InvalidWish") "__init__")) ["self", "given"] (sp_exc K (He.ga K "InvalidWish") "given") := by
  have sc := sc_InvalidWish_init
  refine T.f_InvalidWish_init.ok sc (fun vs H Q E h => ?_) (fun cdv A outer s H vs Q E hr h => ⟨t_exc K "given", PSs.nox ?_, pure_exc rfl h⟩)
  · obtain ⟨_, _, rfl, _⟩ := h
    rfl
  · exact (pss_one (ps_ost (pv 0) (pv 1)))
theorem ok_InvalidIndex_init (T : Tx K mg) : FnOk P w K mg base CX0 1 (He.ma K (He.ga K "InvalidIndex") "__init__") (fdOf K (He.ma K (He.ga K "InvalidIndex") "__init__")) ["self", "given"] (sp_exc K (He.ga K "InvalidIndex") "given") := by
  have sc := sc_InvalidIndex_init
  refine T.f_InvalidIndex_init.ok sc (fun vs H Q E h => ?_) (fun cdv A outer s H vs Q E hr h => ⟨t_exc K "given", PSs.nox ?_, pure_exc rfl h⟩)
  · obtain ⟨_, _, rfl, _⟩ := h
    rfl
  · exact (pss_one (ps_ost (pv 0) (pv 1)))
theorem ok_InvalidName_init (T : Tx K mg) : FnOk P w K mg base CX0 1 (He.ma K (He.ga K "InvalidName") "__init__") (fdOf K (He.ma K (He.ga K "InvalidName") "__init__")) ["self", "given"] (sp_exc K (He.ga K "InvalidName") "given") := by
  have sc := sc_InvalidName_init
  refine T.f_InvalidName_init.ok sc (fun vs H Q E h => ?_) (fun cdv A outer s H vs Q E hr h => ⟨t_exc K "given", PSs.nox ?_, pure_exc rfl h⟩)
  · obtain ⟨_, _, rfl, _⟩ := h
    rfl
  · exact (pss_one (ps_ost (pv 0) (pv 1)))
theorem ok_NotARing_init (T : Tx K mg) : FnOk P w K mg base CX0 1 (He.ma K (He.ga K "NotARing") "__init__") (fdOf K (He.ma K (He.ga K "NotARing") "__init__")) ["self", "given"] (sp_exc K (He.ga K "NotARing") "given") := by
  have sc := sc_NotARing_init
  refine T.f_NotARing_init.ok sc (fun vs H Q E h => ?_) (fun cdv A outer s H vs Q E hr h => ⟨t_exc K "given", PSs.nox ?_, pure_exc rfl h⟩)
  · obtain ⟨_, _, rfl, _⟩ := h
    rfl
  · exact (pss_one (ps_ost (pv 0) (pv 1)))
theorem ok_NotAKind_init (T : Tx K mg) : FnOk P w K mg base CX0 1 (He.ma K (He.ga K "NotAKind") "__init__") (fdOf K (He.ma K (He.ga K "NotAKind") "__init__")) ["self", "given"] (sp_exc K (He.ga K "NotAKind") "given") := by
  have sc := sc_NotAKind_init
  refine T.f_NotAKind_init.ok sc (fun vs H Q E h => ?_) (fun cdv A outer s H vs Q E hr h => ⟨t_exc K "given", PSs.nox ?_, pure_exc rfl h⟩)
  · obtain ⟨_, _, rfl, _⟩ := h
    rfl
  · exact (pss_one (ps_ost (pv 0) (pv 1)))
theorem ok_NotALoop_init (T : Tx K mg) : FnOk P w K mg base CX0 1 (He.ma K (He.ga K "NotALoop") "__init__") (fdOf K (He.ma K (He.ga K "NotALoop") "__init__")) ["self", "given"] (sp_exc K (He.ga K "NotALoop") "given") := by
  have sc := sc_NotALoop_init
  refine T.f_NotALoop_init.ok sc (fun vs H Q E h => ?_) (fun cdv A outer s H vs Q E hr h => ⟨t_exc K "given", PSs.nox ?_, pure_exc rfl h⟩)
  · obtain ⟨_, _, rfl, _⟩ := h
    rfl
  · exact (pss_one (ps_ost (pv 0) (pv 1)))
theorem ok_OtherSigns_init (T : Tx K mg) : FnOk P w K mg base CX0 1 (He.ma K (He.ga K "OtherSigns") "__init__") (fdOf K (He.ma K (He.ga K "OtherSigns") "__init__")) ["self", "given"] (sp_exc K (He.ga K "OtherSigns") "given") := by
  have sc := sc_OtherSigns_init
  refine T.f_OtherSigns_init.ok sc (fun vs H Q E h => ?_) (fun cdv A outer s H vs Q E hr h => ⟨t_exc K "given", PSs.nox ?_, pure_exc rfl h⟩)
  · obtain ⟨_, _, rfl, _⟩ := h
    rfl
  · exact (pss_one (ps_ost (pv 0) (pv 1)))
theorem ok_InvalidPairs_init (T : Tx K mg) : FnOk P w K mg base CX0 1 (He.ma K (He.ga K "InvalidPairs") "__init__") (fdOf K (He.ma K (He.ga K "InvalidPairs") "__init__")) ["self", "index"] (sp_exc K (He.ga K "InvalidPairs") "index") := by
  have sc := sc_InvalidPairs_init
  refine T.f_InvalidPairs_init.ok sc (fun vs H Q E h => ?_) (fun cdv A outer s H vs Q E hr h => ⟨t_exc K "index", PSs.nox ?_, pure_exc rfl h⟩)
  · obtain ⟨_, _, rfl, _⟩ := h
    rfl
  · exact (pss_one (ps_ost (pv 0) (pv 1)))
theorem ok_InvalidStates_init (T : Tx K mg) : FnOk P w K mg base CX0 1 (He.ma K (He.ga K "InvalidStates") "__init__") (fdOf K (He.ma K (He.ga K "InvalidStates") "__init__")) ["self", "index"] (sp_exc K (He.ga K "InvalidStates") "index") := by
  have sc := sc_InvalidStates_init
  refine T.f_InvalidStates_init.ok sc (fun vs H Q E h => ?_) (fun cdv A outer s H vs Q E hr h => ⟨t_exc K "index", PSs.nox ?_, pure_exc rfl h⟩)
  · obtain ⟨_, _, rfl, _⟩ := h
    rfl
  · exact (pss_one (ps_ost (pv 0) (pv 1)))
theorem ok_InvalidRows_init (T : Tx K mg) : FnOk P w K mg base CX0 1 (He.ma K (He.ga K "InvalidRows") "__init__") (fdOf K (He.ma K (He.ga K "InvalidRows") "__init__")) ["self", "index"] (sp_exc K (He.ga K "InvalidRows") "index") := by
  have sc := sc_InvalidRows_init
  refine T.f_InvalidRows_init.ok sc (fun vs H Q E h => ?_) (fun cdv A outer s H vs Q E hr h => ⟨t_exc K "index", PSs.nox ?_, pure_exc rfl h⟩)
  · obtain ⟨_, _, rfl, _⟩ := h
    rfl
  · exact (pss_one (ps_ost (pv 0) (pv 1)))
theorem ok_InvalidTurns_init (T : Tx K mg) : FnOk P w K mg base CX0 1 (He.ma K (He.ga K "InvalidTurns") "__init__") (fdOf K (He.ma K (He.ga K "InvalidTurns") "__init__")) ["self", "index"] (sp_exc K (He.ga K "InvalidTurns") "index") := by
  have sc := sc_InvalidTurns_init
  refine T.f_InvalidTurns_init.ok sc (fun vs H Q E h => ?_) (fun cdv A outer s H vs Q E hr h => ⟨t_exc K "index", PSs.nox ?_, pure_exc rfl h⟩)
  · obtain ⟨_, _, rfl, _⟩ := h
    rfl
  · exact (pss_one (ps_ost (pv 0) (pv 1)))
theorem ok_InvalidChanges_init (T : Tx K mg) : FnOk P w K mg base CX0 1 (He.ma K (He.ga K "InvalidChanges") "__init__") (fdOf K (He.ma K (He.ga K "InvalidChanges") "__init__")) ["self", "index"] (sp_exc K (He.ga K "InvalidChanges") "index") := by
  have sc := sc_InvalidChanges_init
  refine T.f_InvalidChanges_init.ok sc (fun vs H Q E h => ?_) (fun cdv A outer s H vs Q E hr h => ⟨t_exc K "index", PSs.nox ?_, pure_exc rfl h⟩)
  · obtain ⟨_, _, rfl, _⟩ := h
    rfl
  · exact (pss_one (ps_ost (pv 0) (pv 1)))
theorem ok_UnknownName_init (T : Tx K mg) : FnOk P w K mg base CX0 1 (He.ma K (He.ga K "UnknownName") "__init__") (fdOf K (He.ma K (He.ga K "UnknownName") "__init__")) ["self", "given"] (sp_excG K (He.ga K "UnknownName") "given") := by
  have sc := sc_UnknownName_init
  refine T.f_UnknownName_init.ok sc (fun vs H Q E h => ?_) (fun cdv A outer s H vs Q E hr h => ⟨t_excG K "given", PSs.nox ?_, pure_excG rfl h⟩)
  · obtain ⟨_, _, rfl, _⟩ := h
    rfl
  · exact (pss_one (ps_ostG (pv 0) (pv 1)))
theorem ok_InUse_init (T : Tx K mg) : FnOk P w K mg base CX0 1 (He.ma K (He.ga K "InUse") "__init__") (fdOf K (He.ma K (He.ga K "InUse") "__init__")) ["self", "index"] (sp_excG K (He.ga K "InUse") "index") := by
  have sc := sc_InUse_init
  refine T.f_InUse_init.ok sc (fun vs H Q E h => ?_) (fun cdv A outer s H vs Q E hr h => ⟨t_excG K "index", PSs.nox ?_, pure_excG rfl h⟩)
  · obtain ⟨_, _, rfl, _⟩ := h
    rfl
  · exact (pss_one (ps_ostG (pv 0) (pv 1)))
theorem ok_TooMany_init (T : Tx K mg) : FnOk P w K mg base CX0 1 (He.ma K (He.ga K "TooMany") "__init__") (fdOf K (He.ma K (He.ga K "TooMany") "__init__")) ["self", "limit"] (sp_excG K (He.ga K "TooMany") "limit") := by
  have sc := sc_TooMany_init
  refine T.f_TooMany_init.ok sc (fun vs H Q E h => ?_) (fun cdv A outer s H vs Q E hr h => ⟨t_excG K "limit", PSs.nox ?_, pure_excG rfl h⟩)
  · obtain ⟨_, _, rfl, _⟩ := h
    rfl
  · exact (pss_one (ps_ostG (pv 0) (pv 1)))
theorem ok_NoRing_init (T : Tx K mg) : FnOk P w K mg base CX0 1 (He.ma K (He.ga K "NoRing") "__init__") (fdOf K (He.ma K (He.ga K "NoRing") "__init__")) ["self"] sp_excN := by
  have sc := sc_NoRing_init
  refine T.f_NoRing_init.ok sc (fun vs H Q E h => ?_) (fun cdv A outer s H vs Q E hr h => ⟨t_excN, PSs.nox ?_, pure_excN h⟩)
  · obtain ⟨_, rfl, _⟩ := h
    rfl
  · exact (pss_one ps_pass)
theorem ok_NothingToUndo_init (T : Tx K mg) : FnOk P w K mg base CX0 1 (He.ma K (He.ga K "NothingToUndo") "__init__") (fdOf K (He.ma K (He.ga K "NothingToUndo") "__init__")) ["self"] sp_excN := by
  have sc := sc_NothingToUndo_init
  refine T.f_NothingToUndo_init.ok sc (fun vs H Q E h => ?_) (fun cdv A outer s H vs Q E hr h => ⟨t_excN, PSs.nox ?_, pure_excN h⟩)
  · obtain ⟨_, rfl, _⟩ := h
    rfl
  · exact (pss_one ps_pass)
theorem ok_Broken_init (T : Tx K mg) : FnOk P w K mg base CX0 1 (He.ma K (He.ga K "Broken") "__init__") (fdOf K (He.ma K (He.ga K "Broken") "__init__")) ["self", "index"] (sp_excG K (He.ga K "Broken") "index") := by
  have sc := sc_Broken_init
  refine T.f_Broken_init.ok sc (fun vs H Q E h => ?_) (fun cdv A outer s H vs Q E hr h => ⟨t_excG K "index", PSs.nox ?_, pure_excG rfl h⟩)
  · obtain ⟨_, _, rfl, _⟩ := h
    rfl
  · exact (pss_one (ps_ostG (pv 0) (pv 1)))
theorem sc_law_cell : FnScope ["_law_script", "_law_k", "_law_mixed", "_law_cell_here"] ["_law_script", "_law_k"] (defScope st_law_cell) := ⟨rfl, rfl, rfl, by decide +kernel, rfl, by decide +kernel, by decide +kernel⟩
theorem ok_law_cell (T : Tx K mg) : FnOk P w K mg base CX0 1 (He.ga K "_law_cell") (fdOf K (He.ga K "_law_cell")) ["_law_script", "_law_k"] (sp_law_cell K) := by
  have sc := sc_law_cell
  refine T.f_law_cell.ok sc (fun vs H Q E h => ?_) (fun cdv A outer s H vs Q E hr h => ⟨t_law_cell K, PSs.nox ?_, pure_law_cell h⟩)
  · obtain ⟨_, _, _, rfl, _⟩ := h
    rfl
  · exact (pss_cons (ps_if (pt_cmpR op_lt (pv 1) (pe_callB call_len (by rfl) T.n_len (by decide +kernel) (pa_cons (pv 0) pa_nil)) (nomark _)) (pss_one (ps_ret (pe_ix ix_list (pv 0) (pv 1) (fun _ _ => rfl)))) pss_nil)
  (pss_cons (ps_set (i := 2) sc.nd rfl (by first | exact Or.inl rfl | exact Or.inr rfl) (pe_op op_add pe_int (pe_op op_mul (pe_op op_mul pe_int (pv 1)) (pv 1))))
  (pss_cons (ps_for PassesOwn.never rfl (pi_list (pe_slice sl_list (pv 0) po_none (po_some pe_int))) (pg_name (i := 3) sc.nd rfl (by first | exact Or.inl rfl | exact Or.inr rfl)) (pss_one (ps_set (i := 2) sc.nd rfl (by first | exact Or.inl rfl | exact Or.inr rfl) (pe_op op_mod (pe_callTy call_int1 (by rfl) T.n_int (by decide +kernel) (pa_cons (pe_op op_add (pe_op op_mul (pv 2) pe_int) (pv 3)) pa_nil)) pe_int))))
  (pss_one (ps_ret (pv 2))))))
theorem sc_law_pool : FnScope ["_law_cell_here", "_law_digits"] ["_law_cell_here"] (defScope st_law_pool) := ⟨rfl, rfl, rfl, by decide +kernel, rfl, by decide +kernel, by decide +kernel⟩
theorem ok_law_pool (T : Tx K mg) : FnOk P w K mg base CX0 1 (He.ga K "_law_pool") (fdOf K (He.ga K "_law_pool")) ["_law_cell_here"] (sp_law_pool K) := by
  have sc := sc_law_pool
  refine T.f_law_pool.ok sc (fun vs H Q E h => ?_) (fun cdv A outer s H vs Q E hr h => ⟨t_law_pool K, PSs.nox ?_, pure_law_pool h⟩)
  · obtain ⟨_, rfl, _⟩ := h
    rfl
  · exact (pss_cons (ps_set (i := 1) sc.nd rfl (by first | exact Or.inl rfl | exact Or.inr rfl) (pe_ifExp (PW.pt (pw_or (pt_cmpR op_lt (pv 0) pe_int (nomark _)) (pw_or1 (pt_cmpR op_ge (pv 0) (pe_op op_pow pe_int pe_int) (nomark _))))) (pe_callB call_abs (by rfl) T.n_abs (by decide +kernel) (pa_cons (pv 0) pa_nil)) pe_int))
  (pss_one (ps_ret (pe_lst (pa_cons (pe_op op_mod (pe_callTy call_int1 (by rfl) T.n_int (by decide +kernel) (pa_cons (pv 0) pa_nil)) pe_int) (pa_cons (pv 1) (pa_cons pe_int pa_nil)))))))
theorem sc_law_draw : FnScope ["_law_pool_here", "_law_many", "_law_mixed", "_law_digit"] ["_law_pool_here", "_law_many"] (defScope st_law_draw) := ⟨rfl, rfl, rfl, by decide +kernel, rfl, by decide +kernel, by decide +kernel⟩
theorem ok_law_draw (T : Tx K mg) : FnOk P w K mg base CX0 1 (He.ga K "_law_draw") (fdOf K (He.ga K "_law_draw")) ["_law_pool_here", "_law_many"] (sp_law_draw K) := by
  have sc := sc_law_draw
  refine T.f_law_draw.ok sc (fun vs H Q E h => ?_) (fun cdv A outer s H vs Q E hr h => ⟨t_law_draw K, PSs.nox ?_, pure_law_draw h⟩)
  · obtain ⟨_, _, rfl, _⟩ := h
    rfl
  · exact (pss_cons (ps_asg (pe_op op_add (pe_ix ix_list (pv 0) pe_int (fun _ _ => rfl)) pe_int) (pg_sub (pv 0) pe_int set_list))
  (pss_cons (ps_set (i := 2) sc.nd rfl (by first | exact Or.inl rfl | exact Or.inr rfl) (pe_op op_mod (pe_callTy call_int1 (by rfl) T.n_int (by decide +kernel) (pa_cons (pe_op op_add (pe_op op_add (pe_op op_mul (pe_ix ix_list (pv 0) pe_int (fun _ _ => rfl)) pe_int) (pe_op op_mul (pe_ix ix_list (pv 0) pe_int (fun _ _ => rfl)) pe_int)) pe_int) pa_nil)) pe_int))
  (pss_cons (ps_asg (pe_op op_mod (pe_callTy call_int1 (by rfl) T.n_int (by decide +kernel) (pa_cons (pe_op op_mul (pv 2) (pe_op op_add (pe_op op_fdiv (pv 2) pe_int) pe_int)) pa_nil)) pe_int) (pg_sub (pv 0) pe_int set_list))
  (pss_cons (ps_if (pt_cmpR op_gt (pe_ix ix_list (pv 0) pe_int (fun _ _ => rfl)) pe_int (nomark _)) (pss_cons (ps_asg (pe_callB call_divmodW (by rfl) T.n_divmod (by decide +kernel) (pa_cons (pe_ix ix_list (pv 0) pe_int (fun _ _ => rfl)) (pa_cons (pv 1) pa_nil))) (pg_tup rfl (pgs_cons (pg_sub (pv 0) pe_int set_list) (pgs_cons (pg_name (i := 3) sc.nd rfl (by first | exact Or.inl rfl | exact Or.inr rfl)) pgs_nil))))
  (pss_one (ps_ret (pv 3)))) pss_nil)
  (pss_one (ps_ret (pe_op op_mod (pe_callTy call_int1 (by rfl) T.n_int (by decide +kernel) (pa_cons (pe_op op_fdiv (pe_ix ix_list (pv 0) pe_int (fun _ _ => rfl)) pe_int) pa_nil)) (pv 1))))))))
theorem sc_law_faceX : FnScope ["_law_thing", "_law_part", "_law_key"] ["_law_thing"] (defScope st_law_faceX) := ⟨rfl, rfl, rfl, by decide +kernel, rfl, by decide +kernel, by decide +kernel⟩
theorem ok_law_faceX (T : Tx K mg) : ∀ n : Nat, FnOk P w K mg base CX0 (n + 1) (He.ga K "_law_face") (fdOf K (He.ga K "_law_face")) ["_law_thing"] (sp_law_faceX K n)
  | 0 => T.f_law_faceX.ok sc_law_faceX (fun vs H Q E h => False.elim h) (fun cdv A outer s H vs Q E hr h => False.elim h)
  | n + 1 => by
    have sc := sc_law_faceX
    have ih := ok_law_faceX T n
    refine T.f_law_faceX.ok sc (fun vs H Q E h => ?_) (fun cdv A outer s H vs Q E hr h => ⟨t_law_faceX K n, PSs.nox ?_, pure_law_faceX h⟩)
    · obtain ⟨_, rfl, _⟩ := h
      rfl
    · exact (pss_cons (ps_if (pt_val (pe_callB call_isi (by rfl) T.n_isinstance (by decide +kernel) (pa_cons (pv 0) (pa_cons (pe_bltn (by rfl) T.n_tuple (by decide +kernel) rfl) pa_nil)))) (pss_one (ps_ret (pe_op op_cat (pe_lst (pa_cons pe_str pa_nil)) (pe_lc (own := [("_law_part", 1)]) (g := gName 1) (by rfl) sc.nd (pi_tup (pv 0)) (blkOk_by (own := [("_law_part", 1)]) (by kernel_rfl)) (fun _ _ _ _ _ => pg_name (i := 1) sc.nd rfl (by first | exact Or.inl rfl | exact Or.inr rfl)) (fun _ _ _ _ _ => pts_nil) (fun _ _ _ _ _ => (pe_call ih (hr.mono (by omega)) (by rfl) T.g_law_faceX T.k_law_faceX T.b_law_faceX .nil pass0 (pa_cons (pv 1) pa_nil))))))) pss_nil)
  (pss_cons (ps_if (pt_val (pe_callB call_isi (by rfl) T.n_isinstance (by decide +kernel) (pa_cons (pv 0) (pa_cons (pe_bltn (by rfl) T.n_list (by decide +kernel) rfl) pa_nil)))) (pss_one (ps_ret (pe_op op_cat (pe_lst (pa_cons pe_str pa_nil)) (pe_lc (own := [("_law_part", 1)]) (g := gName 1) (by rfl) sc.nd (pi_list (pv 0)) (blkOk_by (own := [("_law_part", 1)]) (by kernel_rfl)) (fun _ _ _ _ _ => pg_name (i := 1) sc.nd rfl (by first | exact Or.inl rfl | exact Or.inr rfl)) (fun _ _ _ _ _ => pts_nil) (fun _ _ _ _ _ => (pe_call ih (hr.mono (by omega)) (by rfl) T.g_law_faceX T.k_law_faceX T.b_law_faceX .nil pass0 (pa_cons (pv 1) pa_nil))))))) pss_nil)
  (pss_cons (ps_if (pt_val (pe_callB call_isi (by rfl) T.n_isinstance (by decide +kernel) (pa_cons (pv 0) (pa_cons (pe_bltn (by rfl) T.n_dict (by decide +kernel) rfl) pa_nil)))) (pss_one (ps_ret (pe_op op_cat (pe_lst (pa_cons pe_str pa_nil)) (pe_lock (pe_lc (own := [("_law_key", 2)]) (g := gName 2) (by rfl) sc.nd (pi_keys (pv 0)) (blkOk_by (own := [("_law_key", 2)]) (by kernel_rfl)) (fun _ _ _ _ _ => pg_name (i := 2) sc.nd rfl (by first | exact Or.inl rfl | exact Or.inr rfl)) (fun _ _ _ _ _ => pts_nil) (fun _ _ _ _ _ => (pe_lst (pa_cons (pe_call ih (hr.mono (by omega)) (by rfl) T.g_law_faceX T.k_law_faceX T.b_law_faceX .nil pass0 (pa_cons (pv 2) pa_nil)) (pa_cons (pe_call ih (hr.mono (by omega)) (by rfl) T.g_law_faceX T.k_law_faceX T.b_law_faceX .nil pass0 (pa_cons (pe_dget hr.u1 (pv 0) (pv 2) (fun _ _ => rfl)) pa_nil)) pa_nil))))))))) pss_nil)
  (pss_one (ps_ret (pe_lst (pa_cons (pe_ifExp (pt_val (pe_callB call_isi (by rfl) T.n_isinstance (by decide +kernel) (pa_cons (pv 0) (pa_cons (pe_bltn (by rfl) T.n_bool (by decide +kernel) rfl) pa_nil)))) pe_str pe_str) (pa_cons (pv 0) pa_nil))))))))
theorem sc_law_wholeK : FnScope ["_law_thing"] ["_law_thing"] (defScope st_law_wholeK) := ⟨rfl, rfl, rfl, by decide +kernel, rfl, by decide +kernel, by decide +kernel⟩
theorem ok_law_wholeK (T : Tx K mg) : FnOk P w K mg base CX0 1 (He.ga K "_law_whole") (fdOf K (He.ga K "_law_whole")) ["_law_thing"] (sp_law_wholeK K) := by
  have sc := sc_law_wholeK
  refine T.f_law_wholeK.ok sc (fun vs H Q E h => ?_) (fun cdv A outer s H vs Q E hr h => ⟨t_law_wholeK K, PSs.nox ?_, pure_law_wholeK h⟩)
  · obtain ⟨_, rfl, _⟩ := h
    rfl
  · exact (pss_one (ps_ret (pe_and (pe_callB call_isi (by rfl) T.n_isinstance (by decide +kernel) (pa_cons (pv 0) (pa_cons (pe_bltn (by rfl) T.n_int (by decide +kernel) rfl) pa_nil))) (pe_one (pe_not (pe_callB call_isi (by rfl) T.n_isinstance (by decide +kernel) (pa_cons (pv 0) (pa_cons (pe_bltn (by rfl) T.n_bool (by decide +kernel) rfl) pa_nil))))))))
theorem sc_law_odd : FnScope ["_law_pool_here", "_law_way"] ["_law_pool_here"] (defScope st_law_odd) := ⟨rfl, rfl, rfl, by decide +kernel, rfl, by decide +kernel, by decide +kernel⟩
theorem ok_law_odd (T : Tx K mg) : FnOk P w K mg base CX0 2 (He.ga K "_law_odd") (fdOf K (He.ga K "_law_odd")) ["_law_pool_here"] (sp_law_odd K) := by
  have sc := sc_law_odd
  refine T.f_law_odd.ok sc (fun vs H Q E h => ?_) (fun cdv A outer s H vs Q E hr h => ⟨t_law_odd K, PSs.nox ?_, pure_law_odd h⟩)
  · obtain ⟨_, rfl, _⟩ := h
    rfl
  · exact (pss_cons (ps_set (i := 1) sc.nd rfl (by first | exact Or.inl rfl | exact Or.inr rfl) (pe_call (ok_law_draw T) (hr.mono (by decide)) (by rfl) T.g_law_draw T.k_law_draw T.b_law_draw .nil pass0 (pa_cons (pv 0) (pa_cons pe_int pa_nil))))
  (pss_cons (ps_if (pt_cmpR op_lt (pv 1) pe_int (nomark _)) (pss_one (ps_ret (pe_ix ix_list (pe_lst (pa_cons pe_non (pa_cons pe_bl (pa_cons pe_bl (pa_cons pe_int (pa_cons pe_int (pa_cons (pe_un un_neg pe_int) (pa_cons pe_int (pa_cons pe_int (pa_cons pe_int (pa_cons (pe_op op_pow pe_int pe_int) (pa_cons (pe_un un_neg (pe_op op_pow pe_int pe_int)) pa_nil)))))))))))) (pv 1) (fun _ _ => rfl)))) pss_nil)
  (pss_cons (ps_if (pt_cmpR op_lt (pv 1) pe_int (nomark _)) (pss_one (ps_ret (pe_ix ix_list (pe_lst (pa_cons pe_str (pa_cons pe_str (pa_cons pe_str (pa_cons pe_str (pa_cons pe_str (pa_cons pe_str (pa_cons pe_str (pa_cons pe_str pa_nil))))))))) (pe_op op_sub (pv 1) pe_int) (fun _ _ => rfl)))) pss_nil)
  (pss_cons (ps_if (pt_cmpR op_lt (pv 1) pe_int (nomark _)) (pss_one (ps_ret (pe_ix ix_list (pe_lst (pa_cons (pe_lst pa_nil) (pa_cons (pe_lst (pa_cons pe_str pa_nil)) (pa_cons pe_dnewK (pa_cons (pe_disp (pps_cons pe_str pe_int pps_nil) rfl rfl (by simp) (by decide)) pa_nil))))) (pe_op op_sub (pv 1) pe_int) (fun _ _ => rfl)))) pss_nil)
  (pss_one (ps_ret (pe_ix ix_list (pe_lst (pa_cons (pe_tup pa_nil) (pa_cons (pe_tup (pa_cons pe_str pa_nil)) (pa_cons (pe_tup (pa_cons pe_int (pa_cons pe_int pa_nil))) (pa_cons (pe_tup (pa_cons (pe_lst pa_nil) (pa_cons (pe_disp (pps_cons pe_str (pe_tup (pa_cons pe_int (pa_cons (pe_lst pa_nil) pa_nil))) pps_nil) rfl rfl (by simp) (by decide)) pa_nil))) pa_nil))))) (pe_op op_sub (pv 1) pe_int) (fun _ _ => rfl))))))))
theorem sc_law_sorts : FnScope ["_law_e", "_law_found"] ["_law_e"] (defScope st_law_sorts) := ⟨rfl, rfl, rfl, by decide +kernel, rfl, by decide +kernel, by decide +kernel⟩
theorem ok_law_sorts (T : Tx K mg) : FnOk P w K mg base CX0 1 (He.ga K "_law_sorts") (fdOf K (He.ga K "_law_sorts")) ["_law_e"] (sp_law_sorts K) := by
  have sc := sc_law_sorts
  refine T.f_law_sorts.ok sc (fun vs H Q E h => ?_) (fun cdv A outer s H vs Q E hr h => ⟨t_law_sorts K, PSs.nox ?_, pure_law_sorts T.vs01 h⟩)
  · obtain ⟨_, rfl, _⟩ := h
    rfl
  · exact (pss_cons (ps_set (i := 1) sc.nd rfl (by first | exact Or.inl rfl | exact Or.inr rfl) (pe_lst (pa_cons (pe_callB call_isV (by rfl) T.n_isinstance (by decide +kernel) (pa_cons (pv 0) (pa_cons (pe_glob (by rfl) T.g_InvalidWord (show RelV (.ref (He.ga K "InvalidWord")) (.ref (He.ga K "InvalidWord")) from rfl)) pa_nil))) (pa_cons (pe_callB call_isV (by rfl) T.n_isinstance (by decide +kernel) (pa_cons (pv 0) (pa_cons (pe_glob (by rfl) T.g_InvalidSigns (show RelV (.ref (He.ga K "InvalidSigns")) (.ref (He.ga K "InvalidSigns")) from rfl)) pa_nil))) (pa_cons (pe_callB call_isV (by rfl) T.n_isinstance (by decide +kernel) (pa_cons (pv 0) (pa_cons (pe_glob (by rfl) T.g_InvalidNumber (show RelV (.ref (He.ga K "InvalidNumber")) (.ref (He.ga K "InvalidNumber")) from rfl)) pa_nil))) pa_nil)))))
  (pss_cons (ps_set (i := 1) sc.nd rfl (by first | exact Or.inl rfl | exact Or.inr rfl) (pe_op op_cat (pv 1) (pe_lst (pa_cons (pe_callB call_isV (by rfl) T.n_isinstance (by decide +kernel) (pa_cons (pv 0) (pa_cons (pe_glob (by rfl) T.g_InvalidRound (show RelV (.ref (He.ga K "InvalidRound")) (.ref (He.ga K "InvalidRound")) from rfl)) pa_nil))) (pa_cons (pe_callB call_isV (by rfl) T.n_isinstance (by decide +kernel) (pa_cons (pv 0) (pa_cons (pe_glob (by rfl) T.g_InvalidPlace (show RelV (.ref (He.ga K "InvalidPlace")) (.ref (He.ga K "InvalidPlace")) from rfl)) pa_nil))) (pa_cons (pe_callB call_isV (by rfl) T.n_isinstance (by decide +kernel) (pa_cons (pv 0) (pa_cons (pe_glob (by rfl) T.g_InvalidRow (show RelV (.ref (He.ga K "InvalidRow")) (.ref (He.ga K "InvalidRow")) from rfl)) pa_nil))) pa_nil))))))
  (pss_cons (ps_set (i := 1) sc.nd rfl (by first | exact Or.inl rfl | exact Or.inr rfl) (pe_op op_cat (pv 1) (pe_lst (pa_cons (pe_callB call_isV (by rfl) T.n_isinstance (by decide +kernel) (pa_cons (pv 0) (pa_cons (pe_glob (by rfl) T.g_InvalidWish (show RelV (.ref (He.ga K "InvalidWish")) (.ref (He.ga K "InvalidWish")) from rfl)) pa_nil))) (pa_cons (pe_callB call_isV (by rfl) T.n_isinstance (by decide +kernel) (pa_cons (pv 0) (pa_cons (pe_glob (by rfl) T.g_InvalidIndex (show RelV (.ref (He.ga K "InvalidIndex")) (.ref (He.ga K "InvalidIndex")) from rfl)) pa_nil))) (pa_cons (pe_callB call_isV (by rfl) T.n_isinstance (by decide +kernel) (pa_cons (pv 0) (pa_cons (pe_glob (by rfl) T.g_InvalidName (show RelV (.ref (He.ga K "InvalidName")) (.ref (He.ga K "InvalidName")) from rfl)) pa_nil))) pa_nil))))))
  (pss_cons (ps_set (i := 1) sc.nd rfl (by first | exact Or.inl rfl | exact Or.inr rfl) (pe_op op_cat (pv 1) (pe_lst (pa_cons (pe_callB call_isV (by rfl) T.n_isinstance (by decide +kernel) (pa_cons (pv 0) (pa_cons (pe_glob (by rfl) T.g_NotARing (show RelV (.ref (He.ga K "NotARing")) (.ref (He.ga K "NotARing")) from rfl)) pa_nil))) (pa_cons (pe_callB call_isV (by rfl) T.n_isinstance (by decide +kernel) (pa_cons (pv 0) (pa_cons (pe_glob (by rfl) T.g_NotAKind (show RelV (.ref (He.ga K "NotAKind")) (.ref (He.ga K "NotAKind")) from rfl)) pa_nil))) (pa_cons (pe_callB call_isV (by rfl) T.n_isinstance (by decide +kernel) (pa_cons (pv 0) (pa_cons (pe_glob (by rfl) T.g_NotALoop (show RelV (.ref (He.ga K "NotALoop")) (.ref (He.ga K "NotALoop")) from rfl)) pa_nil))) pa_nil))))))
  (pss_cons (ps_set (i := 1) sc.nd rfl (by first | exact Or.inl rfl | exact Or.inr rfl) (pe_op op_cat (pv 1) (pe_lst (pa_cons (pe_callB call_isV (by rfl) T.n_isinstance (by decide +kernel) (pa_cons (pv 0) (pa_cons (pe_glob (by rfl) T.g_OtherSigns (show RelV (.ref (He.ga K "OtherSigns")) (.ref (He.ga K "OtherSigns")) from rfl)) pa_nil))) (pa_cons (pe_callB call_isV (by rfl) T.n_isinstance (by decide +kernel) (pa_cons (pv 0) (pa_cons (pe_glob (by rfl) T.g_InvalidPairs (show RelV (.ref (He.ga K "InvalidPairs")) (.ref (He.ga K "InvalidPairs")) from rfl)) pa_nil))) (pa_cons (pe_callB call_isV (by rfl) T.n_isinstance (by decide +kernel) (pa_cons (pv 0) (pa_cons (pe_glob (by rfl) T.g_InvalidStates (show RelV (.ref (He.ga K "InvalidStates")) (.ref (He.ga K "InvalidStates")) from rfl)) pa_nil))) pa_nil))))))
  (pss_cons (ps_set (i := 1) sc.nd rfl (by first | exact Or.inl rfl | exact Or.inr rfl) (pe_op op_cat (pv 1) (pe_lst (pa_cons (pe_callB call_isV (by rfl) T.n_isinstance (by decide +kernel) (pa_cons (pv 0) (pa_cons (pe_glob (by rfl) T.g_InvalidRows (show RelV (.ref (He.ga K "InvalidRows")) (.ref (He.ga K "InvalidRows")) from rfl)) pa_nil))) (pa_cons (pe_callB call_isV (by rfl) T.n_isinstance (by decide +kernel) (pa_cons (pv 0) (pa_cons (pe_glob (by rfl) T.g_InvalidTurns (show RelV (.ref (He.ga K "InvalidTurns")) (.ref (He.ga K "InvalidTurns")) from rfl)) pa_nil))) (pa_cons (pe_callB call_isV (by rfl) T.n_isinstance (by decide +kernel) (pa_cons (pv 0) (pa_cons (pe_glob (by rfl) T.g_InvalidChanges (show RelV (.ref (He.ga K "InvalidChanges")) (.ref (He.ga K "InvalidChanges")) from rfl)) pa_nil))) pa_nil))))))
  (pss_cons (ps_set (i := 1) sc.nd rfl (by first | exact Or.inl rfl | exact Or.inr rfl) (pe_op op_cat (pv 1) (pe_lst (pa_cons (pe_callB call_isV (by rfl) T.n_isinstance (by decide +kernel) (pa_cons (pv 0) (pa_cons (pe_glob (by rfl) T.g_UnknownName (show RelV (.ref (He.ga K "UnknownName")) (.ref (He.ga K "UnknownName")) from rfl)) pa_nil))) (pa_cons (pe_callB call_isV (by rfl) T.n_isinstance (by decide +kernel) (pa_cons (pv 0) (pa_cons (pe_glob (by rfl) T.g_InUse (show RelV (.ref (He.ga K "InUse")) (.ref (He.ga K "InUse")) from rfl)) pa_nil))) (pa_cons (pe_callB call_isV (by rfl) T.n_isinstance (by decide +kernel) (pa_cons (pv 0) (pa_cons (pe_glob (by rfl) T.g_TooMany (show RelV (.ref (He.ga K "TooMany")) (.ref (He.ga K "TooMany")) from rfl)) pa_nil))) pa_nil))))))
  (pss_one (ps_ret (pe_op op_cat (pv 1) (pe_lst (pa_cons (pe_callB call_isV (by rfl) T.n_isinstance (by decide +kernel) (pa_cons (pv 0) (pa_cons (pe_glob (by rfl) T.g_NoRing (show RelV (.ref (He.ga K "NoRing")) (.ref (He.ga K "NoRing")) from rfl)) pa_nil))) (pa_cons (pe_callB call_isV (by rfl) T.n_isinstance (by decide +kernel) (pa_cons (pv 0) (pa_cons (pe_glob (by rfl) T.g_NothingToUndo (show RelV (.ref (He.ga K "NothingToUndo")) (.ref (He.ga K "NothingToUndo")) from rfl)) pa_nil))) (pa_cons (pe_callB call_isV (by rfl) T.n_isinstance (by decide +kernel) (pa_cons (pv 0) (pa_cons (pe_glob (by rfl) T.g_Broken (show RelV (.ref (He.ga K "Broken")) (.ref (He.ga K "Broken")) from rfl)) pa_nil))) pa_nil))))))))))))))
theorem sc_law_by_place : FnScope ["_law_value", "_law_found"] ["_law_value"] (defScope st_law_by_place) := ⟨rfl, rfl, rfl, by decide +kernel, rfl, by decide +kernel, by decide +kernel⟩
theorem ok_law_by_place (T : Tx K mg) : FnOk P w K mg base CX0 3 (He.ga K "_law_by_place") (fdOf K (He.ga K "_law_by_place")) ["_law_value"] (sp_law_by_place K) := by
  have sc := sc_law_by_place
  refine T.f_law_by_place.ok sc (fun vs H Q E h => ?_) (fun cdv A outer s H vs Q E hr h => ⟨t_law_by_place K, PSs.nox ?_, pure_law_by_place T.vx01 h⟩)
  · obtain ⟨_, rfl, _⟩ := h
    rfl
  · exact (pss_cons (ps_set (i := 1) sc.nd rfl (by first | exact Or.inl rfl | exact Or.inr rfl) (pe_lst (pa_cons (pe_oexV (.ofC T.xk_InvalidWord.ox) T.xk_InvalidWord.ini T.xk_InvalidWord.fn (ok_InvalidWord_init T) (hr.mono (by decide)) T.b_InvalidWord_init pass0 (by rfl) T.g_InvalidWord (pa_cons (pv 0) pa_nil)) (pa_cons (pe_oexV (.ofC T.xk_InvalidSigns.ox) T.xk_InvalidSigns.ini T.xk_InvalidSigns.fn (ok_InvalidSigns_init T) (hr.mono (by decide)) T.b_InvalidSigns_init pass0 (by rfl) T.g_InvalidSigns (pa_cons (pv 0) pa_nil)) (pa_cons (pe_oexV (.ofC T.xk_InvalidNumber.ox) T.xk_InvalidNumber.ini T.xk_InvalidNumber.fn (ok_InvalidNumber_init T) (hr.mono (by decide)) T.b_InvalidNumber_init pass0 (by rfl) T.g_InvalidNumber (pa_cons (pv 0) pa_nil)) (pa_cons (pe_oexV (.ofC T.xk_InvalidRound.ox) T.xk_InvalidRound.ini T.xk_InvalidRound.fn (ok_InvalidRound_init T) (hr.mono (by decide)) T.b_InvalidRound_init pass0 (by rfl) T.g_InvalidRound (pa_cons (pv 0) pa_nil)) (pa_cons (pe_oexV (.ofC T.xk_InvalidPlace.ox) T.xk_InvalidPlace.ini T.xk_InvalidPlace.fn (ok_InvalidPlace_init T) (hr.mono (by decide)) T.b_InvalidPlace_init pass0 (by rfl) T.g_InvalidPlace (pa_cons (pv 0) pa_nil)) pa_nil)))))))
  (pss_cons (ps_set (i := 1) sc.nd rfl (by first | exact Or.inl rfl | exact Or.inr rfl) (pe_op op_cat (pv 1) (pe_lst (pa_cons (pe_oexV (.ofC T.xk_InvalidRow.ox) T.xk_InvalidRow.ini T.xk_InvalidRow.fn (ok_InvalidRow_init T) (hr.mono (by decide)) T.b_InvalidRow_init pass0 (by rfl) T.g_InvalidRow (pa_cons (pv 0) pa_nil)) (pa_cons (pe_oexV (.ofC T.xk_InvalidWish.ox) T.xk_InvalidWish.ini T.xk_InvalidWish.fn (ok_InvalidWish_init T) (hr.mono (by decide)) T.b_InvalidWish_init pass0 (by rfl) T.g_InvalidWish (pa_cons (pv 0) pa_nil)) (pa_cons (pe_oexV (.ofC T.xk_InvalidIndex.ox) T.xk_InvalidIndex.ini T.xk_InvalidIndex.fn (ok_InvalidIndex_init T) (hr.mono (by decide)) T.b_InvalidIndex_init pass0 (by rfl) T.g_InvalidIndex (pa_cons (pv 0) pa_nil)) (pa_cons (pe_oexV (.ofC T.xk_InvalidName.ox) T.xk_InvalidName.ini T.xk_InvalidName.fn (ok_InvalidName_init T) (hr.mono (by decide)) T.b_InvalidName_init pass0 (by rfl) T.g_InvalidName (pa_cons (pv 0) pa_nil)) (pa_cons (pe_oexV (.ofC T.xk_NotARing.ox) T.xk_NotARing.ini T.xk_NotARing.fn (ok_NotARing_init T) (hr.mono (by decide)) T.b_NotARing_init pass0 (by rfl) T.g_NotARing (pa_cons (pv 0) pa_nil)) pa_nil))))))))
  (pss_cons (ps_set (i := 1) sc.nd rfl (by first | exact Or.inl rfl | exact Or.inr rfl) (pe_op op_cat (pv 1) (pe_lst (pa_cons (pe_oexV (.ofC T.xk_NotAKind.ox) T.xk_NotAKind.ini T.xk_NotAKind.fn (ok_NotAKind_init T) (hr.mono (by decide)) T.b_NotAKind_init pass0 (by rfl) T.g_NotAKind (pa_cons (pv 0) pa_nil)) (pa_cons (pe_oexV (.ofC T.xk_NotALoop.ox) T.xk_NotALoop.ini T.xk_NotALoop.fn (ok_NotALoop_init T) (hr.mono (by decide)) T.b_NotALoop_init pass0 (by rfl) T.g_NotALoop (pa_cons (pv 0) pa_nil)) (pa_cons (pe_oexV (.ofC T.xk_OtherSigns.ox) T.xk_OtherSigns.ini T.xk_OtherSigns.fn (ok_OtherSigns_init T) (hr.mono (by decide)) T.b_OtherSigns_init pass0 (by rfl) T.g_OtherSigns (pa_cons (pv 0) pa_nil)) (pa_cons (pe_oexV (.ofC T.xk_InvalidPairs.ox) T.xk_InvalidPairs.ini T.xk_InvalidPairs.fn (ok_InvalidPairs_init T) (hr.mono (by decide)) T.b_InvalidPairs_init pass0 (by rfl) T.g_InvalidPairs (pa_cons (pv 0) pa_nil)) (pa_cons (pe_oexV (.ofC T.xk_InvalidStates.ox) T.xk_InvalidStates.ini T.xk_InvalidStates.fn (ok_InvalidStates_init T) (hr.mono (by decide)) T.b_InvalidStates_init pass0 (by rfl) T.g_InvalidStates (pa_cons (pv 0) pa_nil)) pa_nil))))))))
  (pss_cons (ps_set (i := 1) sc.nd rfl (by first | exact Or.inl rfl | exact Or.inr rfl) (pe_op op_cat (pv 1) (pe_lst (pa_cons (pe_oexV (.ofC T.xk_InvalidRows.ox) T.xk_InvalidRows.ini T.xk_InvalidRows.fn (ok_InvalidRows_init T) (hr.mono (by decide)) T.b_InvalidRows_init pass0 (by rfl) T.g_InvalidRows (pa_cons (pv 0) pa_nil)) (pa_cons (pe_oexV (.ofC T.xk_InvalidTurns.ox) T.xk_InvalidTurns.ini T.xk_InvalidTurns.fn (ok_InvalidTurns_init T) (hr.mono (by decide)) T.b_InvalidTurns_init pass0 (by rfl) T.g_InvalidTurns (pa_cons (pv 0) pa_nil)) (pa_cons (pe_oexV (.ofC T.xk_InvalidChanges.ox) T.xk_InvalidChanges.ini T.xk_InvalidChanges.fn (ok_InvalidChanges_init T) (hr.mono (by decide)) T.b_InvalidChanges_init pass0 (by rfl) T.g_InvalidChanges (pa_cons (pv 0) pa_nil)) (pa_cons (pe_oexV (.ofG T.xk_UnknownName.ox) T.xk_UnknownName.ini T.xk_UnknownName.fn (ok_UnknownName_init T) (hr.mono (by decide)) T.b_UnknownName_init pass0 (by rfl) T.g_UnknownName (pa_cons (pv 0) pa_nil)) pa_nil)))))))
  (pss_one (ps_ret (pe_op op_cat (pv 1) (pe_lst (pa_cons (pe_oexV (.ofG T.xk_InUse.ox) T.xk_InUse.ini T.xk_InUse.fn (ok_InUse_init T) (hr.mono (by decide)) T.b_InUse_init pass0 (by rfl) T.g_InUse (pa_cons (pv 0) pa_nil)) (pa_cons (pe_oexV (.ofG T.xk_TooMany.ox) T.xk_TooMany.ini T.xk_TooMany.fn (ok_TooMany_init T) (hr.mono (by decide)) T.b_TooMany_init pass0 (by rfl) T.g_TooMany (pa_cons (pv 0) pa_nil)) (pa_cons (pe_oexV0 (.ofG T.xk_NoRing.ox) T.xk_NoRing.ini T.xk_NoRing.fn (ok_NoRing_init T) (hr.mono (by decide)) T.b_NoRing_init pass0 (by rfl) T.g_NoRing) (pa_cons (pe_oexV0 (.ofG T.xk_NothingToUndo.ox) T.xk_NothingToUndo.ini T.xk_NothingToUndo.fn (ok_NothingToUndo_init T) (hr.mono (by decide)) T.b_NothingToUndo_init pass0 (by rfl) T.g_NothingToUndo) (pa_cons (pe_oexV (.ofG T.xk_Broken.ox) T.xk_Broken.ini T.xk_Broken.fn (ok_Broken_init T) (hr.mono (by decide)) T.b_Broken_init pass0 (by rfl) T.g_Broken (pa_cons (pv 0) pa_nil)) pa_nil)))))))))))))
theorem sc_law_by_name : FnScope ["_law_value", "_law_found"] ["_law_value"] (defScope st_law_by_name) := ⟨rfl, rfl, rfl, by decide +kernel, rfl, by decide +kernel, by decide +kernel⟩
theorem ok_law_by_name (T : Tx K mg) : FnOk P w K mg base CX0 3 (He.ga K "_law_by_name") (fdOf K (He.ga K "_law_by_name")) ["_law_value"] (sp_law_by_name K) := by
  have sc := sc_law_by_name
  obtain ⟨gx_InvalidNumber, kx_InvalidNumber⟩ := T.kx_InvalidNumber
  obtain ⟨gx_InvalidSigns, kx_InvalidSigns⟩ := T.kx_InvalidSigns
  obtain ⟨gx_InvalidWord, kx_InvalidWord⟩ := T.kx_InvalidWord
  obtain ⟨gx_InvalidRow, kx_InvalidRow⟩ := T.kx_InvalidRow
  obtain ⟨gx_InvalidPlace, kx_InvalidPlace⟩ := T.kx_InvalidPlace
  obtain ⟨gx_InvalidRound, kx_InvalidRound⟩ := T.kx_InvalidRound
  obtain ⟨gx_InvalidName, kx_InvalidName⟩ := T.kx_InvalidName
  obtain ⟨gx_InvalidIndex, kx_InvalidIndex⟩ := T.kx_InvalidIndex
  obtain ⟨gx_InvalidWish, kx_InvalidWish⟩ := T.kx_InvalidWish
  obtain ⟨gx_OtherSigns, kx_OtherSigns⟩ := T.kx_OtherSigns
  obtain ⟨gx_NotALoop, kx_NotALoop⟩ := T.kx_NotALoop
  obtain ⟨gx_NotAKind, kx_NotAKind⟩ := T.kx_NotAKind
  obtain ⟨gx_NotARing, kx_NotARing⟩ := T.kx_NotARing
  obtain ⟨gx_InvalidRows, kx_InvalidRows⟩ := T.kx_InvalidRows
  obtain ⟨gx_InvalidStates, kx_InvalidStates⟩ := T.kx_InvalidStates
  obtain ⟨gx_InvalidPairs, kx_InvalidPairs⟩ := T.kx_InvalidPairs
  obtain ⟨gx_UnknownName, kx_UnknownName⟩ := T.kx_UnknownName
  obtain ⟨gx_InvalidChanges, kx_InvalidChanges⟩ := T.kx_InvalidChanges
  obtain ⟨gx_InvalidTurns, kx_InvalidTurns⟩ := T.kx_InvalidTurns
  obtain ⟨gx_Broken, kx_Broken⟩ := T.kx_Broken
  obtain ⟨gx_TooMany, kx_TooMany⟩ := T.kx_TooMany
  obtain ⟨gx_InUse, kx_InUse⟩ := T.kx_InUse
  refine T.f_law_by_name.ok sc (fun vs H Q E h => ?_) (fun cdv A outer s H vs Q E hr h => ⟨t_law_by_name K, PSs.nox ?_, pure_law_by_name T.vx01 h⟩)
  · obtain ⟨_, rfl, _⟩ := h
    rfl
  · exact (pss_cons (ps_set (i := 1) sc.nd rfl (by first | exact Or.inl rfl | exact Or.inr rfl) (pe_lst (pa_cons (pe_oexVK (ks := ["given"]) (.ofC T.xk_InvalidWord.ox) T.xk_InvalidWord.ini T.xk_InvalidWord.fn (ok_InvalidWord_init T) (hr.mono (by decide)) (by rfl) T.g_InvalidWord kx_InvalidWord pass0 (pk_cons (pv 0) pk_nil)) (pa_cons (pe_oexVK (ks := ["given"]) (.ofC T.xk_InvalidSigns.ox) T.xk_InvalidSigns.ini T.xk_InvalidSigns.fn (ok_InvalidSigns_init T) (hr.mono (by decide)) (by rfl) T.g_InvalidSigns kx_InvalidSigns pass0 (pk_cons (pv 0) pk_nil)) (pa_cons (pe_oexVK (ks := ["given"]) (.ofC T.xk_InvalidNumber.ox) T.xk_InvalidNumber.ini T.xk_InvalidNumber.fn (ok_InvalidNumber_init T) (hr.mono (by decide)) (by rfl) T.g_InvalidNumber kx_InvalidNumber pass0 (pk_cons (pv 0) pk_nil)) pa_nil)))))
  (pss_cons (ps_set (i := 1) sc.nd rfl (by first | exact Or.inl rfl | exact Or.inr rfl) (pe_op op_cat (pv 1) (pe_lst (pa_cons (pe_oexVK (ks := ["given"]) (.ofC T.xk_InvalidRound.ox) T.xk_InvalidRound.ini T.xk_InvalidRound.fn (ok_InvalidRound_init T) (hr.mono (by decide)) (by rfl) T.g_InvalidRound kx_InvalidRound pass0 (pk_cons (pv 0) pk_nil)) (pa_cons (pe_oexVK (ks := ["given"]) (.ofC T.xk_InvalidPlace.ox) T.xk_InvalidPlace.ini T.xk_InvalidPlace.fn (ok_InvalidPlace_init T) (hr.mono (by decide)) (by rfl) T.g_InvalidPlace kx_InvalidPlace pass0 (pk_cons (pv 0) pk_nil)) (pa_cons (pe_oexVK (ks := ["given"]) (.ofC T.xk_InvalidRow.ox) T.xk_InvalidRow.ini T.xk_InvalidRow.fn (ok_InvalidRow_init T) (hr.mono (by decide)) (by rfl) T.g_InvalidRow kx_InvalidRow pass0 (pk_cons (pv 0) pk_nil)) pa_nil))))))
  (pss_cons (ps_set (i := 1) sc.nd rfl (by first | exact Or.inl rfl | exact Or.inr rfl) (pe_op op_cat (pv 1) (pe_lst (pa_cons (pe_oexVK (ks := ["given"]) (.ofC T.xk_InvalidWish.ox) T.xk_InvalidWish.ini T.xk_InvalidWish.fn (ok_InvalidWish_init T) (hr.mono (by decide)) (by rfl) T.g_InvalidWish kx_InvalidWish pass0 (pk_cons (pv 0) pk_nil)) (pa_cons (pe_oexVK (ks := ["given"]) (.ofC T.xk_InvalidIndex.ox) T.xk_InvalidIndex.ini T.xk_InvalidIndex.fn (ok_InvalidIndex_init T) (hr.mono (by decide)) (by rfl) T.g_InvalidIndex kx_InvalidIndex pass0 (pk_cons (pv 0) pk_nil)) (pa_cons (pe_oexVK (ks := ["given"]) (.ofC T.xk_InvalidName.ox) T.xk_InvalidName.ini T.xk_InvalidName.fn (ok_InvalidName_init T) (hr.mono (by decide)) (by rfl) T.g_InvalidName kx_InvalidName pass0 (pk_cons (pv 0) pk_nil)) pa_nil))))))
  (pss_cons (ps_set (i := 1) sc.nd rfl (by first | exact Or.inl rfl | exact Or.inr rfl) (pe_op op_cat (pv 1) (pe_lst (pa_cons (pe_oexVK (ks := ["given"]) (.ofC T.xk_NotARing.ox) T.xk_NotARing.ini T.xk_NotARing.fn (ok_NotARing_init T) (hr.mono (by decide)) (by rfl) T.g_NotARing kx_NotARing pass0 (pk_cons (pv 0) pk_nil)) (pa_cons (pe_oexVK (ks := ["given"]) (.ofC T.xk_NotAKind.ox) T.xk_NotAKind.ini T.xk_NotAKind.fn (ok_NotAKind_init T) (hr.mono (by decide)) (by rfl) T.g_NotAKind kx_NotAKind pass0 (pk_cons (pv 0) pk_nil)) (pa_cons (pe_oexVK (ks := ["given"]) (.ofC T.xk_NotALoop.ox) T.xk_NotALoop.ini T.xk_NotALoop.fn (ok_NotALoop_init T) (hr.mono (by decide)) (by rfl) T.g_NotALoop kx_NotALoop pass0 (pk_cons (pv 0) pk_nil)) (pa_cons (pe_oexVK (ks := ["given"]) (.ofC T.xk_OtherSigns.ox) T.xk_OtherSigns.ini T.xk_OtherSigns.fn (ok_OtherSigns_init T) (hr.mono (by decide)) (by rfl) T.g_OtherSigns kx_OtherSigns pass0 (pk_cons (pv 0) pk_nil)) pa_nil)))))))
  (pss_cons (ps_set (i := 1) sc.nd rfl (by first | exact Or.inl rfl | exact Or.inr rfl) (pe_op op_cat (pv 1) (pe_lst (pa_cons (pe_oexVK (ks := ["index"]) (.ofC T.xk_InvalidPairs.ox) T.xk_InvalidPairs.ini T.xk_InvalidPairs.fn (ok_InvalidPairs_init T) (hr.mono (by decide)) (by rfl) T.g_InvalidPairs kx_InvalidPairs pass0 (pk_cons (pv 0) pk_nil)) (pa_cons (pe_oexVK (ks := ["index"]) (.ofC T.xk_InvalidStates.ox) T.xk_InvalidStates.ini T.xk_InvalidStates.fn (ok_InvalidStates_init T) (hr.mono (by decide)) (by rfl) T.g_InvalidStates kx_InvalidStates pass0 (pk_cons (pv 0) pk_nil)) (pa_cons (pe_oexVK (ks := ["index"]) (.ofC T.xk_InvalidRows.ox) T.xk_InvalidRows.ini T.xk_InvalidRows.fn (ok_InvalidRows_init T) (hr.mono (by decide)) (by rfl) T.g_InvalidRows kx_InvalidRows pass0 (pk_cons (pv 0) pk_nil)) pa_nil))))))
  (pss_cons (ps_set (i := 1) sc.nd rfl (by first | exact Or.inl rfl | exact Or.inr rfl) (pe_op op_cat (pv 1) (pe_lst (pa_cons (pe_oexVK (ks := ["index"]) (.ofC T.xk_InvalidTurns.ox) T.xk_InvalidTurns.ini T.xk_InvalidTurns.fn (ok_InvalidTurns_init T) (hr.mono (by decide)) (by rfl) T.g_InvalidTurns kx_InvalidTurns pass0 (pk_cons (pv 0) pk_nil)) (pa_cons (pe_oexVK (ks := ["index"]) (.ofC T.xk_InvalidChanges.ox) T.xk_InvalidChanges.ini T.xk_InvalidChanges.fn (ok_InvalidChanges_init T) (hr.mono (by decide)) (by rfl) T.g_InvalidChanges kx_InvalidChanges pass0 (pk_cons (pv 0) pk_nil)) (pa_cons (pe_oexVK (ks := ["given"]) (.ofG T.xk_UnknownName.ox) T.xk_UnknownName.ini T.xk_UnknownName.fn (ok_UnknownName_init T) (hr.mono (by decide)) (by rfl) T.g_UnknownName kx_UnknownName pass0 (pk_cons (pv 0) pk_nil)) pa_nil))))))
  (pss_one (ps_ret (pe_op op_cat (pv 1) (pe_lst (pa_cons (pe_oexVK (ks := ["index"]) (.ofG T.xk_InUse.ox) T.xk_InUse.ini T.xk_InUse.fn (ok_InUse_init T) (hr.mono (by decide)) (by rfl) T.g_InUse kx_InUse pass0 (pk_cons (pv 0) pk_nil)) (pa_cons (pe_oexVK (ks := ["limit"]) (.ofG T.xk_TooMany.ox) T.xk_TooMany.ini T.xk_TooMany.fn (ok_TooMany_init T) (hr.mono (by decide)) (by rfl) T.g_TooMany kx_TooMany pass0 (pk_cons (pv 0) pk_nil)) (pa_cons (pe_oexV0 (.ofG T.xk_NoRing.ox) T.xk_NoRing.ini T.xk_NoRing.fn (ok_NoRing_init T) (hr.mono (by decide)) T.b_NoRing_init pass0 (by rfl) T.g_NoRing) (pa_cons (pe_oexV0 (.ofG T.xk_NothingToUndo.ox) T.xk_NothingToUndo.ini T.xk_NothingToUndo.fn (ok_NothingToUndo_init T) (hr.mono (by decide)) T.b_NothingToUndo_init pass0 (by rfl) T.g_NothingToUndo) (pa_cons (pe_oexVK (ks := ["index"]) (.ofG T.xk_Broken.ox) T.xk_Broken.ini T.xk_Broken.fn (ok_Broken_init T) (hr.mono (by decide)) (by rfl) T.g_Broken kx_Broken pass0 (pk_cons (pv 0) pk_nil)) pa_nil)))))))))))))))
theorem sc_law_kept : FnScope ["_law_e", "_law_at"] ["_law_e", "_law_at"] (defScope st_law_kept) := ⟨rfl, rfl, rfl, by decide +kernel, rfl, by decide +kernel, by decide +kernel⟩
theorem ok_law_kept (T : Tx K mg) : FnOk P w K mg base CX0 1 (He.ga K "_law_kept") (fdOf K (He.ga K "_law_kept")) ["_law_e", "_law_at"] (sp_law_kept K) := by
  have sc := sc_law_kept
  refine T.f_law_kept.ok sc (fun vs H Q E h => ?_) (fun cdv A outer s H vs Q E hr h => ⟨t_law_kept K, PSs.nox ?_, pure_law_kept T.vs01 h⟩)
  · obtain ⟨_, _, rfl, _⟩ := h
    rfl
  · exact (pss_cons (ps_if (pt_cmpR op_in_seq (pv 1) (pe_lst (pa_cons pe_int (pa_cons pe_int pa_nil))) (by rfl)) (pss_one (ps_ret (pe_lst pa_nil))) pss_nil)
  (pss_cons (ps_if (pt_cmpR op_eq (pv 1) pe_int (nomark _)) (pss_one (ps_ret (pe_lst (pa_cons (pe_vx (pv 0)) pa_nil)))) pss_nil)
  (pss_one (ps_ret (pe_ifExp (PW.pt (pw_or (pt_cmpR op_lt (pv 1) pe_int (nomark _)) (pw_or1 (pt_cmpR op_eq (pv 1) pe_int (nomark _))))) (pe_lst (pa_cons (pe_vx (pv 0)) pa_nil)) (pe_lst (pa_cons (pe_vx (pv 0)) pa_nil)))))))
theorem sc_law_error_right : FnScope ["_law_e", "_law_at", "_law_value", "_law_k", "_law_flags", "_law_own", "_law_due", "_law_kept_here", "_law_part"] ["_law_e", "_law_at", "_law_value"] (defScope st_law_error_right) := ⟨rfl, rfl, rfl, by decide +kernel, rfl, by decide +kernel, by decide +kernel⟩
theorem ok_law_error_right (T : Tx K mg) : FnOk P w K mg base CX0 8 (He.ga K "_law_error_right") (fdOf K (He.ga K "_law_error_right")) ["_law_e", "_law_at", "_law_value"] (sp_law_error_right K) := by
  have sc := sc_law_error_right
  refine T.f_law_error_right.ok sc (fun vs H Q E h => ?_) (fun cdv A outer s H vs Q E hr h => ⟨t_law_error_right K, PSs.nox ?_, pure_law_error_right T.vs01 h⟩)
  · obtain ⟨_, _, _, rfl, _⟩ := h
    rfl
  · exact (pss_cons (ps_if (pt_cmpR (op_neD hr.units) (pe_call (ok_law_sorts T) (hr.mono (by decide)) (by rfl) T.g_law_sorts T.k_law_sorts T.b_law_sorts .nil pass0 (pa_cons (pv 0) pa_nil)) (pe_lc (own := [("_law_k", 3)]) (g := gName 3) (by rfl) sc.nd (pi_range1 (by rfl) T.n_range (pa_cons pe_int pa_nil)) (blkOk_by (own := [("_law_k", 3)]) (by kernel_rfl)) (fun _ _ _ _ _ => pg_name (i := 3) sc.nd rfl (by first | exact Or.inl rfl | exact Or.inr rfl)) (fun _ _ _ _ _ => pts_nil) (fun _ _ _ _ _ => (pe_cmpR op_eq (pv 3) (pv 1) (nomark _)))) (nomark _)) (pss_one (ps_ret pe_bl)) pss_nil)
  (pss_cons (ps_set (i := 4) sc.nd rfl (by first | exact Or.inl rfl | exact Or.inr rfl) (pe_lst (pa_cons (pe_callB call_isV (by rfl) T.n_isinstance (by decide +kernel) (pa_cons (pv 0) (pa_cons (pe_glob (by rfl) T.g_WrongValue (show RelV (.ref (He.ga K "WrongValue")) (.ref (He.ga K "WrongValue")) from rfl)) pa_nil))) (pa_cons (pe_callB call_isV (by rfl) T.n_isinstance (by decide +kernel) (pa_cons (pv 0) (pa_cons (pe_glob (by rfl) T.g_WrongName (show RelV (.ref (He.ga K "WrongName")) (.ref (He.ga K "WrongName")) from rfl)) pa_nil))) (pa_cons (pe_callB call_isV (by rfl) T.n_isinstance (by decide +kernel) (pa_cons (pv 0) (pa_cons (pe_glob (by rfl) T.g_NoAnswer (show RelV (.ref (He.ga K "NoAnswer")) (.ref (He.ga K "NoAnswer")) from rfl)) pa_nil))) pa_nil)))))
  (pss_cons (ps_set (i := 5) sc.nd rfl (by first | exact Or.inl rfl | exact Or.inr rfl) (pe_lst (pa_cons (pe_callB call_isV (by rfl) T.n_isinstance (by decide +kernel) (pa_cons (pv 0) (pa_cons (pe_bltn (by rfl) T.n_ValueError (by decide +kernel) rfl) pa_nil))) (pa_cons (pe_callB call_isV (by rfl) T.n_isinstance (by decide +kernel) (pa_cons (pv 0) (pa_cons (pe_bltn (by rfl) T.n_LookupError (by decide +kernel) rfl) pa_nil))) (pa_cons (pe_callB call_isV (by rfl) T.n_isinstance (by decide +kernel) (pa_cons (pv 0) (pa_cons (pe_bltn (by rfl) T.n_ArithmeticError (by decide +kernel) rfl) pa_nil))) pa_nil)))))
  (pss_cons (ps_set (i := 6) sc.nd rfl (by first | exact Or.inl rfl | exact Or.inr rfl) (pe_lst (pa_cons (pe_cmpR op_lt (pv 1) pe_int (nomark _)) (pa_cons (pe_cmpR op_in_seq (pv 1) (pe_lst (pa_cons pe_int (pa_cons pe_int pa_nil))) (by rfl)) (pa_cons (pe_cmpR op_gt (pv 1) pe_int (nomark _)) pa_nil)))))
  (pss_cons (ps_set (i := 7) sc.nd rfl (by first | exact Or.inl rfl | exact Or.inr rfl) (pe_call (ok_law_kept T) (hr.mono (by decide)) (by rfl) T.g_law_kept T.k_law_kept T.b_law_kept .nil pass0 (pa_cons (pv 0) (pa_cons (pv 1) pa_nil))))
  (pss_one (ps_ret (pe_and (pe_cmpR (op_eqD hr.units) (pv 4) (pv 6) (nomark _)) (pe_and (pe_cmpR (op_eqD hr.units) (pv 5) (pv 6) (nomark _)) (pe_one (pe_callB (cr_all rfl) (by rfl) T.n_all (by decide +kernel) (pa_cons (pe_lc (own := [("_law_part", 8)]) (g := gName 8) (by rfl) sc.nd (pi_list (pv 7)) (blkOk_by (own := [("_law_part", 8)]) (by kernel_rfl)) (fun _ _ _ _ _ => pg_name (i := 8) sc.nd rfl (by first | exact Or.inl rfl | exact Or.inr rfl)) (fun _ _ _ _ _ => pts_nil) (fun _ _ _ _ _ => (pe_cmpR (op_eqD hr.units) (pe_call (ok_law_faceX T 6) (hr.mono (by decide)) (by rfl) T.g_law_faceX T.k_law_faceX T.b_law_faceX .nil pass0 (pa_cons (pv 8) pa_nil)) (pe_call (ok_law_faceX T 6) (hr.mono (by decide)) (by rfl) T.g_law_faceX T.k_law_faceX T.b_law_faceX .nil pass0 (pa_cons (pv 2) pa_nil)) (nomark _)))) pa_nil))))))))))))
theorem sc_law_right01 : FnScope ["_law_pool_here", "_law_value", "_law_later", "_law_near", "_law_far", "_law_at"] ["_law_pool_here"] (defScope st_law_right01) := ⟨rfl, rfl, rfl, by decide +kernel, rfl, by decide +kernel, by decide +kernel⟩
theorem ok_law_right01 (T : Tx K mg) : FnOk P w K mg base CX0 9 (He.ga K "_law_right") (fdOf K (He.ga K "_law_right")) ["_law_pool_here"] (sp_law_right01 K) := by
  have sc := sc_law_right01
  refine T.f_law_right01.ok sc (fun vs H Q E h => ?_) (fun cdv A outer s H vs Q E hr h => ⟨t_law_right01 K, PSs.nox ?_, pure_law_right01 h⟩)
  · obtain ⟨_, rfl, _⟩ := h
    rfl
  · exact (pss_cons (ps_par (by rfl) sc.nd rfl rfl (by decide) rfl rfl (pa_cons (pe_call (ok_law_odd T) (hr.mono (by decide)) (by rfl) T.g_law_odd T.k_law_odd T.b_law_odd .nil pass0 (pa_cons (pv 0) pa_nil)) (pa_cons (pe_call (ok_law_odd T) (hr.mono (by decide)) (by rfl) T.g_law_odd T.k_law_odd T.b_law_odd .nil pass0 (pa_cons (pv 0) pa_nil)) pa_nil)) (by rfl))
  (pss_cons (ps_par (by rfl) sc.nd rfl rfl (by decide) rfl rfl (pa_cons (pe_call (ok_law_by_place T) (hr.mono (by decide)) (by rfl) T.g_law_by_place T.k_law_by_place T.b_law_by_place .nil pass0 (pa_cons (pv 1) pa_nil)) (pa_cons (pe_call (ok_law_by_name T) (hr.mono (by decide)) (by rfl) T.g_law_by_name T.k_law_by_name T.b_law_by_name .nil pass0 (pa_cons (pv 2) pa_nil)) pa_nil)) (by rfl))
  (pss_cons (ps_for PassesOwn.never rfl (pi_range1 (by rfl) T.n_range (pa_cons pe_int pa_nil)) (pg_name (i := 5) sc.nd rfl (by first | exact Or.inl rfl | exact Or.inr rfl)) (pss_one (ps_if (PW.pt (pw_or (pt_not (pt_val (pe_call (ok_law_error_right T) (hr.mono (by decide)) (by rfl) T.g_law_error_right T.k_law_error_right T.b_law_error_right .nil pass0 (pa_cons (pe_ix ix_list (pv 3) (pv 5) (fun _ _ => rfl)) (pa_cons (pv 5) (pa_cons (pv 1) pa_nil)))))) (pw_or1 (pt_not (pt_val (pe_call (ok_law_error_right T) (hr.mono (by decide)) (by rfl) T.g_law_error_right T.k_law_error_right T.b_law_error_right .nil pass0 (pa_cons (pe_ix ix_list (pv 4) (pv 5) (fun _ _ => rfl)) (pa_cons (pv 5) (pa_cons (pv 2) pa_nil))))))))) (pss_one (ps_ret pe_bl)) pss_nil)))
  (pss_one (ps_ret pe_bl)))))
theorem sc_law_constants : FnScope ["_law_found"] [] (defScope st_law_constants) := ⟨rfl, rfl, rfl, by decide +kernel, rfl, by decide +kernel, by decide +kernel⟩
theorem ok_law_constants (T : Tx K mg) : FnOk P w K mg base CX0 1 (He.ga K "_law_constants") (fdOf K (He.ga K "_law_constants")) [] (sp_law_constants K) := by
  have sc := sc_law_constants
  refine T.f_law_constants.ok sc (fun vs H Q E h => ?_) (fun cdv A outer s H vs Q E hr h => ⟨t_law_constants K, PSs.nox ?_, pure_law_constants h⟩)
  · obtain ⟨rfl, _⟩ := h
    rfl
  · exact (pss_cons (ps_set (i := 0) sc.nd rfl (by first | exact Or.inl rfl | exact Or.inr rfl) (pe_lst (pa_cons (pe_globI (by rfl) T.g_MOST_SIGNS) (pa_cons (pe_globI (by rfl) T.g_MOST_STATES) (pa_cons (pe_globI (by rfl) T.g_MOST_WORD) (pa_cons (pe_globI (by rfl) T.g_MOST_STANDS) (pa_cons (pe_globI (by rfl) T.g_MOST_ROUNDS) (pa_cons (pe_globI (by rfl) T.g_MOST_TOTAL) pa_nil))))))))
  (pss_one (ps_ret (pe_op op_cat (pv 0) (pe_lst (pa_cons (pe_globI (by rfl) T.g_MOST_LENGTH) (pa_cons (pe_globI (by rfl) T.g_MOST_CHANGES) (pa_cons (pe_globI (by rfl) T.g_MOST_WARM) (pa_cons (pe_globI (by rfl) T.g_MOST_TIMES) pa_nil)))))))))
theorem sc_law : FnScope ["_law_script", "_law_thing", "_law_k"] ["_law_script"] (defScope st_law) := ⟨rfl, rfl, rfl, by decide +kernel, rfl, by decide +kernel, by decide +kernel⟩
theorem ok_law (T : Tx K mg) : FnOk P w K mg base CX0 10 (He.ga K "law") (fdOf K (He.ga K "law")) ["_law_script"] (sp_law K) := by
  have sc := sc_law
  refine T.f_law.ok sc (fun vs H Q E h => ?_) (fun cdv A outer s H vs Q E hr h => ⟨t_law K, PSs.nox ?_, pure_law h⟩)
  · obtain ⟨_, _, rfl, _⟩ := h
    rfl
  · exact (pss_cons (ps_if (pt_cmpR (op_neD hr.units) (pe_call0 (ok_law_constants T) (hr.mono (by decide)) (by rfl) T.g_law_constants T.k_law_constants T.b_law_constants .nil pass0) (pe_lst (pa_cons pe_int (pa_cons pe_int (pa_cons pe_int (pa_cons pe_int (pa_cons pe_int (pa_cons pe_int (pa_cons pe_int (pa_cons pe_int (pa_cons pe_int (pa_cons pe_int pa_nil))))))))))) (nomark _)) (pss_one (ps_ret pe_bl)) pss_nil)
  (pss_cons (ps_if (pt_not (pt_val (pe_callB (cr_all rfl) (by rfl) T.n_all (by decide +kernel) (pa_cons (pe_lc (own := [("_law_thing", 1)]) (g := gName 1) (by rfl) sc.nd (pi_list (pe_call0 (ok_law_constants T) (hr.mono (by decide)) (by rfl) T.g_law_constants T.k_law_constants T.b_law_constants .nil pass0)) (blkOk_by (own := [("_law_thing", 1)]) (by kernel_rfl)) (fun _ _ _ _ _ => pg_name (i := 1) sc.nd rfl (by first | exact Or.inl rfl | exact Or.inr rfl)) (fun _ _ _ _ _ => pts_nil) (fun _ _ _ _ _ => (pe_call (ok_law_wholeK T) (hr.mono (by decide)) (by rfl) T.g_law_wholeK T.k_law_wholeK T.b_law_wholeK .nil pass0 (pa_cons (pv 1) pa_nil)))) pa_nil)))) (pss_one (ps_ret pe_bl)) pss_nil)
  (pss_one (ps_ret (pe_callB (cr_all rfl) (by rfl) T.n_all (by decide +kernel) (pa_cons (pe_lc (own := [("_law_k", 2)]) (g := gName 2) (by rfl) sc.nd (pi_range1 (by rfl) T.n_range (pa_cons (pe_callB (call_max2 rfl) (by rfl) T.n_max (by decide +kernel) (pa_cons pe_int (pa_cons (pe_callB (call_min2 rfl) (by rfl) T.n_min (by decide +kernel) (pa_cons (pe_callB call_len (by rfl) T.n_len (by decide +kernel) (pa_cons (pv 0) pa_nil)) (pa_cons pe_int pa_nil))) pa_nil))) pa_nil)) (blkOk_by (own := [("_law_k", 2)]) (by kernel_rfl)) (fun _ _ _ _ _ => pg_name (i := 2) sc.nd rfl (by first | exact Or.inl rfl | exact Or.inr rfl)) (fun _ _ _ _ _ => pts_nil) (fun _ _ _ _ _ => (pe_call (ok_law_right01 T) (hr.mono (by decide)) (by rfl) T.g_law_right01 T.k_law_right01 T.b_law_right01 .nil pass0 (pa_cons (pe_call (ok_law_pool T) (hr.mono (by decide)) (by rfl) T.g_law_pool T.k_law_pool T.b_law_pool .nil pass0 (pa_cons (pe_call (ok_law_cell T) (hr.mono (by decide)) (by rfl) T.g_law_cell T.k_law_cell T.b_law_cell .nil pass0 (pa_cons (pv 0) (pa_cons (pv 2) pa_nil))) pa_nil)) pa_nil)))) pa_nil))))))
end
end WB
namespace WB
open PySem PySem.Spec PyProof.Rows L2
theorem facts {P : Program} {w : World} {K : Fr'} {h : Heap} {mg : Str → Option Value} {f : Addr} (X : K.In h) (G : h.Ns mainGlobals mg) (hfa : mg ("law" : Str) = some (.ref f)) (c : SaysW fa fn ex K) :
    ∃ fd : FuncData, (∀ (s : Shared) (v : Value), BindsTo s fd ⟨[v], []⟩ [("_law_script", v)]) ∧ ∀ base : Heap, K.In base → base.Ns mainGlobals mg → FnOk P w K mg base CX0 10 f fd ["_law_script"] (sp_law K) := by
  have T : Tx K mg := ⟨c, h, X, G⟩
  have e := hfa.symm.trans T.g_law
  cases e
  have b := FunD.bindsA (ps := ["_law_script"]) (kws := d_law.kws K) T.f_law fun _ _ _ _ _ _ us hl => match us, hl with | [_], _ => rfl
  exact ⟨_, fun s v => b s [v] rfl, fun base _ _ => ok_law T⟩
end WB
open PySem PySem.W PySem.Calls PyProof.Rows in
set_option maxRecDepth 100000 in
set_option maxHeartbeats 0 in
theorem PySem.Challenge.cw_wherebegun_k01_limits_and_errors_holds : PySem.Challenge.rw_wherebegun_k01_limits_and_errors.Holds := by
  w_on; o_law
  refine HandSHeadRun.head_any (r := OpenLaw.row PySem.Challenge.rw_wherebegun_k01_limits_and_errors) (q := view (OpenLaw.row PySem.Challenge.rw_wherebegun_k01_limits_and_errors).prog [52]) (H := WB.hk) (ob := WB.ob) (M := 20000) (loose := WB.looseN) (d := HandSHeadRun.topDef (OpenLaw.row PySem.Challenge.rw_wherebegun_k01_limits_and_errors).prog 52) (kwd := []) WB.ob_eq
    (by kernel_rfl) (fun s => by kernel_rfl) WB.runH (by kernel_rfl) (by kernel_rfl) (by kernel_rfl) (by rfl) (by first | assumption | decide +kernel) (by decide +kernel) ⟨rfl, rfl, rfl, rfl, rfl, by decide +kernel⟩ ?hw ?hc
  case hw => w_witness2
  case hc =>
    refine L2.walk_ofE (l := PySem.Challenge.rw_wherebegun_k01_limits_and_errors) (n := 63) (k := 10) (x := "_law_script") (CX := L2.CX0) rfl (by decide) (by kernel_rfl) ⟨rfl, by decide, by decide⟩ ?F (fun _ _ _ _ z => z)
    intro w mg fa h Y G hmg0
    obtain ⟨K, KX, c⟩ := Y
    have hmg : mg ("law" : PySem.Str) = some (.ref fa) := by
      have e : (HandSHeadRun.topDef (OpenLaw.row PySem.Challenge.rw_wherebegun_k01_limits_and_errors).prog 52).name = ("law" : PySem.Str) := by kernel_rfl
      rw [← e]
      exact hmg0
    obtain ⟨fd, hb, hF⟩ := WB.facts (P := (PySem.Challenge.rw_wherebegun_k01_limits_and_errors).prog) (w := w) KX G hmg c
    exact ⟨K, fd, WB.sp_law K, KX, hb, fun H a ns hl _ hS => ⟨a, ns, rfl, hS, hl, fun _ => rfl⟩, hF⟩
