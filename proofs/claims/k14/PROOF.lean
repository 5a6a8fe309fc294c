import PyProof.Rows.All
import Wide.All
import OpenK.AllK
import Wide.FinOn
import HandS.ForMost
import HandS.Property
import HandS.IsInst
import HandS.Defaults
import HandS.MakeKw
import HandS.WideBits
import HandS.TupAny
import HandS.Walk
import HandS.Deep
import HandS.OwnEq
import HandS.HeadHook4
import KE.KOpsOwn
import KE.KCallOwn
import HandS.Style
import HandS.TryOnly
import HandS.RaiseMore
import KE.DatumOrd
import PyProof.Rows.StrRev
import HandS.Strs
import PyProof.ListStr
import HandS.Conv
import HandS.More
import PyProof.StrLawsIn
import HandS.ClsMeth
import HandS.HeadNt
import HandS.Head0
import HandS.Head1
import HandS.Head2
import HandS.HeadEnd
import HandS.Star
import HandS.TryMany
import HandS.ExcCtx
import HandS.ExcInit
import HandS.ExcField
import HandS.Hot
import HandS.HotCalls
import HandS.Lambda
import HandS.EndTab
import HandS.NestedK
import HandS.SetTxtIn
import PyProof.Rows.Range3
import PyProof.CollectStr
import PyProof.TupleOfSeq
import KE.GoesMore
import HandS.DictComp
import HandS.MakeKwOnly
import HandS.Wide
import PyProof.TupleOfStr
import PyProof.EqKinds
import HandS.Dict
import KE.KRevSl
import HandS.List
import PySem.Challenge.RW_wherebegun_k14_loops_refused
set_option Elab.async false
set_option linter.all false
set_option maxRecDepth 100000
set_option maxHeartbeats 4000000
namespace WB
open PySem PySem.Spec PyProof.Rows L2
section
variable {X : Cx} {CX : CXT} {k : Nat} {f C : Addr} {fd : FuncData} {ps : List Str} {sp : Sp} {dvs : List V} {ds : List Value} {E : XK}
def rStrO (C : Addr) (sp : Sp) (E : XK) : List V → Hp → VK → Prop := fun xs H Q => ∃ a dx fs, xs = [.ref a] ∧ H a = some (.ins C dx fs) ∧ sp [.ref a] H (fun z H' => ∃ y, z = .str y ∧ Q z H') E
def rEqO (C : Addr) (sp : Sp) (E : XK) : R2 := fun x y H Q => ∃ a dx fs b dy gs, x = .ref a ∧ y = .ref b ∧ H a = some (.ins C dx fs) ∧ H b = some (.ins C dy gs) ∧ sp [x, y] H (fun z H' => ∃ c, z = .bl c ∧ Q z H') E
end
end WB
namespace WB
open PySem PySem.Spec PyProof.Rows L2
def S (l : List Nat) : Str := ⟨l.toArray⟩
theorem S_cps (l : List Nat) : (S l).cps.toList = l := by simp [S]
theorem S_len (l : List Nat) : (S l).length = l.length := by simp [S, Str.length]
theorem S_app (a b : List Nat) : S a ++ S b = S (a ++ b) := by
  show Str.mk (a.toArray ++ b.toArray) = S (a ++ b)
  simp [S]
theorem S_inj {a b : List Nat} (h : S a = S b) : a = b := by
  have := congrArg (fun z : Str => z.cps.toList) h
  simpa [S] using this
theorem S_of (z : Str) : z = S z.cps.toList := by
  cases z
  simp [S]
def rAddI : R2 := rI0 fun i j => .int (i + j)
def rSubI : R2 := rI0 fun i j => .int (i - j)
def rMulI : R2 := rI CMul fun i j => .int (i * j)
def rDivI : R2 := rI CDiv fun i j => .int (i / j)
def rModI : R2 := rI (fun _ j => 0 < j) fun i j => .int (i % j)
def rPowI : R2 := rI CPow fun i j => .int (i ^ j.toNat)
def rLtI : R2 := rI0 fun i j => .bl (decide (i < j))
def rLeI : R2 := rI0 fun i j => .bl (decide (i ≤ j))
def rGtI : R2 := rI0 fun i j => .bl (decide (j < i))
def rGeI : R2 := rI0 fun i j => .bl (decide (j ≤ i))
def rNegI : V → Hp → VK → Prop := rU fun i => .int (-i)
def rLenV (K : PySem.W.Frag) : List V → Hp → VK → Prop := fun xs H Q => ∃ x n, xs = [x] ∧ LenV K x H n ∧ Q (.int n) H
def rAbsI : List V → Hp → VK → Prop := fun xs H Q => ∃ i, xs = [.int i] ∧ Q (.int (if i < 0 then -i else i)) H
def rIntI : List V → Hp → VK → Prop := fun xs H Q => (∃ i, xs = [.int i] ∧ Q (.int i) H) ∨ ∃ k, xs = [.bl k] ∧ Q (.int (if k then 1 else 0)) H
def rMin2 : List V → Hp → VK → Prop := fun xs H Q => ∃ i j, xs = [.int i, .int j] ∧ Q (.int (if j < i then j else i)) H
def rMax2 : List V → Hp → VK → Prop := fun xs H Q => ∃ i j, xs = [.int i, .int j] ∧ Q (.int (if j > i then j else i)) H
def rDivmod : List V → Hp → VK → Prop := fun xs H Q => ∃ i j, xs = [.int i, .int j] ∧ CDivP i j ∧ ∀ p, H p = none → Q (.ref p) (upd H p (.tup [.int (i / j), .int (i % j)]))
def rInSg : R2 := fun x y H Q => ∃ (c : Nat) (z : Str), x = .str ⟨#[c]⟩ ∧ y = .str z ∧ Q (.bl (decide (c ∈ z.cps.toList))) H
def rNotInSg : R2 := fun x y H Q => ∃ (c : Nat) (z : Str), x = .str ⟨#[c]⟩ ∧ y = .str z ∧ Q (.bl (!decide (c ∈ z.cps.toList))) H
def rIsN1 : R2 := fun x y H Q => y = .non ∧ Q (.bl (decide (x = .non))) H
def rNotN1 : R2 := fun x y H Q => y = .non ∧ Q (.bl (!decide (x = .non))) H
def rListOf (K : PySem.W.Frag) : List V → Hp → VK → Prop := fun xs H Q => ∃ p ys, xs = [.ref p] ∧ (SqL K H p ys ∨ SqT K H p ys) ∧ ∀ l, H l = none → Q (.ref l) (upd H l (.lst ys))
def rJoin (K : PySem.W.Frag) : V → List V → Hp → VK → Prop := fun x xs H Q => ∃ a p, ∃ ys : List Str, x = .str a ∧ xs = [.ref p] ∧ (SqL K H p (ys.map V.str) ∨ SqT K H p (ys.map V.str)) ∧
      (ys.map (·.length)).sum + ys.length * a.length ≤ 16777216 ∧ Q (.str (Txt.join a ys)) H
section
variable {X : Cx}
theorem pe_globI {x : Str} {i : Int} {pos : Pos} (hg : Gl X x) (hm : ∃ t, X.mg x = some (.int i t)) (hd : (x == ("__debug__" : Str)) = false := by decide) : PE X (.Name x pos) (tC (.int i)) := by
  obtain ⟨t, h⟩ := hm
  exact pe_glob hg h ⟨t, rfl⟩ hd
theorem pe_globS {x z : Str} {pos : Pos} (hg : Gl X x) (hm : ∃ t, X.mg x = some (.str z t)) (hd : (x == ("__debug__" : Str)) = false := by decide) : PE X (.Name x pos) (tC (.str z)) := by
  obtain ⟨t, h⟩ := hm
  exact pe_glob hg h ⟨t, rfl⟩ hd
def rAddS : R2 := fun x y H Q => ∃ a b, x = .str (S a) ∧ y = .str (S b) ∧ a.length + b.length ≤ sizeLine ∧ Q (.str (S (a ++ b))) H
theorem op_addS : OpR X (binaryOp .Add) rAddS := by
  intro pins s σ H x y v u Q I rx ry h
  obtain ⟨a, b, rfl, rfl, hl, q⟩ := h
  exact op_add_str pins s σ H _ _ v u Q I rx ry ⟨_, _, rfl, rfl, by rw [S_len, S_len]; exact hl, by rw [S_app]; exact q⟩
end
end WB
namespace WB
open PySem PySem.Spec PyProof.Rows L2
def minL (x : List Nat) (xs : List (List Nat)) : List Nat := xs.foldl (fun a y => if decide (y < a) = true then y else a) x
abbrev vS (l : List Nat) : V := .str (S l)
section
variable {X : Cx}
def tRevS (te : TE) : TE := fun σ H Q => te σ H fun x H1 => ∃ l : List Nat, x = vS l ∧ l.length ≤ sizeLine ∧ Q (vS l.reverse) H1
variable {CX : CXT} {k : Nat} {f C : Addr} {fd : FuncData} {ps : List Str} {sp : Sp} {E : XK}
end
end WB
namespace WB
open PySem PySem.Spec PyProof.Rows L2
abbrev St := L2.St
def Ex (m : List Addr) (H H' : Hp) : Prop := ∀ b o, b ∉ m → H b = some o → H' b = some o
section
variable {m m' : List Addr} {H H' H1 H2 : Hp} {a p : Addr} {o u : HO} {K : PySem.W.Frag} {xs : List V}
theorem Ex.rfl : Ex m H H := fun _ _ _ h => h
theorem Ex.trans (a : Ex m H H1) (b : Ex m H1 H2) : Ex m H H2 := fun x o n h => b x o n (a x o n h)
theorem Ex.snoc (b : Ex m H1 H2) (a : Ex m H H1) : Ex m H H2 := a.trans b
theorem Ex.wide (e : Ex [] H H') : Ex m H H' := fun b o _ h => e b o (by simp) h
theorem Ex.snocW (b : Ex [] H1 H2) (a : Ex m H H1) : Ex m H H2 := a.trans b.wide
theorem Ex.new (h : H p = none) : Ex m H (upd H p o) := fun a u _ e => by rw [upd_ne (ne_of_none e h)]; exact e
theorem Ex.put (hp : p ∈ m) : Ex m H (upd H p o) := fun a u n e => by rw [upd_ne (fun z => n (by rw [z]; exact hp))]; exact e
theorem Ex.get (e : Ex m H H') (n : a ∉ m) (h : H a = some o) : H' a = some o := e a o n h
theorem Ex.get0 (e : Ex [] H H') (h : H a = some o) : H' a = some o := e a o (by simp) h
theorem Ex.rd (e : Ex m H H') (n : a ∉ m) (h : Rd H a u) : Rd H' a u := by
  rcases h with h | ⟨ob, h⟩
  · exact .inl (e a _ n h)
  · exact .inr ⟨ob, e a _ n h⟩
theorem Ex.sqL (e : Ex m H H') (n : a ∉ m) (h : SqL K H a xs) : SqL K H' a xs := by
  rcases h with h | h
  · exact .inl (e.rd n h)
  · exact .inr h
theorem Ex.sqT (e : Ex m H H') (n : a ∉ m) (h : SqT K H a xs) : SqT K H' a xs := by
  rcases h with h | h
  · exact .inl (e.rd n h)
  · exact .inr h
theorem Ex.free (e : Ex [] H H') (h : H' p = none) : H p = none := by
  cases q : H p with
  | none => rfl
  | some o => rw [e p o (by simp) q] at h; cases h
end
def FldG (K : PySem.W.Frag) (f : Str) (x : V) (H : Hp) (Q : VK) : Prop := ∃ a C dx fs v, x = .ref a ∧ H a = some (.ins C dx fs) ∧ Cls K C ∧ NoAttr K C f ∧ fs.lookup f = some v ∧ Q v H
def PropG (C : Addr) (sp : Sp) (dvs : List V) (E : XK) (x : V) (H : Hp) (Q : VK) : Prop := ∃ a dx fs, x = .ref a ∧ H a = some (.ins C dx fs) ∧ sp (.ref a :: dvs) H Q E
def MakeG (C : Addr) (sp : Sp) (dvs : List V) (E : XK) (vs : List V) (H1 : Hp) (Q : VK) : Prop := ∀ x dx, H1 x = none → H1 dx = none → dx ≠ x → sp (.ref x :: (vs ++ dvs)) (upd (upd H1 dx (.own x)) x (.ins C dx [])) (fun v H2 => v = .non ∧ Q (.ref x) H2) E
def MethG (C : Addr) (m : Str) (sp : Sp) (dvs : List V) (E : XK) (t : TA) (σ : St) (x : V) (H1 : Hp) (Q : VK) : Prop := ∃ a dx fs, x = .ref a ∧ H1 a = some (.ins C dx fs) ∧ fs.lookup m = none ∧ t σ H1 fun vs H2 => sp (x :: (vs ++ dvs)) H2 Q E
def RevG (x : V) (H : Hp) (Q : VK) : Prop := ∃ l : List Nat, x = vS l ∧ l.length ≤ sizeLine ∧ Q (vS l.reverse) H
def SetG (K : PySem.W.Frag) (f : Str) (y x : V) (H : Hp) (R : Hp → Prop) : Prop := ∃ a C dx fs, x = .ref a ∧ H a = some (.ins C dx fs) ∧ Cls K C ∧ NoAttr K C f ∧ fs.length < 1000 ∧ R (upd H a (.ins C dx (putF f y fs)))
def Al (o : HO) (n : Nat) (H : Hp) (Q : VK) : Prop := n ≤ sizeLine ∧ ∀ p, H p = none → Q (.ref p) (upd H p o)
section
variable {σ : St} {H : Hp} {Q : VK} {ta tb tc te : TE} {t u : TT} {tr : TA} {v x y : V} {r r' : R2} {i : Nat} {K : PySem.W.Frag} {R : Bool → Hp → Prop} {A B : Prop}
theorem s_var (h : σ[i]? = some (some v)) (k : Q v H) : tVar i σ H Q := ⟨v, h, k⟩
theorem s_c (k : Q v H) : tC v σ H Q := k
theorem s_cS {z : Str} {l : List Nat} (e : z = S l) (k : Q (vS l) H) : tC (.str z) σ H Q := by rw [e]; exact k
theorem s_op (k : ta σ H fun x H1 => tb σ H1 fun y H2 => r x y H2 Q) : tOp r ta tb σ H Q := k
theorem s_un {r : V → Hp → VK → Prop} (k : ta σ H fun x H1 => r x H1 Q) : tUn r ta σ H Q := k
theorem s_cb {r : List V → Hp → VK → Prop} (k : tr σ H fun vs H1 => r vs H1 Q) : tCB r tr σ H Q := k
theorem s_nil {R : List V → Hp → Prop} (k : R [] H) : tNil σ H R := k
theorem s_cons {R : List V → Hp → Prop} (k : ta σ H fun x H1 => tr σ H1 fun xs H2 => R (x :: xs) H2) : tCons ta tr σ H R := k
theorem s_call {sp : Sp} {dvs : List V} {E : XK} (k : tr σ H fun vs H1 => sp (vs ++ dvs) H1 Q E) : tCall sp dvs E tr σ H Q := k
theorem s_tup (k : tr σ H fun xs H1 => Al (.tup xs) xs.length H1 Q) : tTup tr σ H Q := k
theorem s_lst (k : tr σ H fun xs H1 => Al (.lst xs) xs.length H1 Q) : tLst tr σ H Q := k
theorem s_alloc {n : Nat} {o : HO} (h : n ≤ sizeLine) (k : ∀ p H2, H p = none → Ex [] H H2 → H2 p = some o → Q (.ref p) H2) : Al o n H Q :=
  ⟨h, fun p hp => k p _ hp (Ex.new hp) upd_same⟩
theorem s_new {o : HO} (k : ∀ p H2, H p = none → Ex [] H H2 → H2 p = some o → Q (.ref p) H2) : ∀ p, H p = none → Q (.ref p) (upd H p o) :=
  fun p hp => k p _ hp (Ex.new hp) upd_same
theorem s_not (k : t σ H fun c H1 => R (!c) H1) : tNot t σ H R := k
theorem s_and (k : t σ H fun c H1 => if c = true then u σ H1 R else R false H1) : tAnd t u σ H R := k
theorem s_or (k : t σ H fun c H1 => if c = true then R true H1 else u σ H1 R) : tOr t u σ H R := k
theorem s_test (k : te σ H fun x H' => ∃ k, x = .bl k ∧ R k H') : tTest te σ H R := k
theorem s_tB (k : te σ H fun x H' => ∃ k, x = .bl k ∧ R k H') : tB te σ H R := k
theorem s_blQ {b : Bool} {P : Bool → Prop} (k : P b) : ∃ c, V.bl b = .bl c ∧ P c := ⟨b, rfl, k⟩
theorem s_andV (k : ta σ H fun x H1 => ∃ c, x = .bl c ∧ if c = true then tb σ H1 Q else Q (.bl false) H1) : tAndV ta tb σ H Q := k
theorem s_orV (k : ta σ H fun x H1 => ∃ c, x = .bl c ∧ if c = true then Q (.bl true) H1 else tb σ H1 Q) : tOrV ta tb σ H Q := k
theorem s_notV (k : ta σ H fun x H1 => ∃ c, x = .bl c ∧ Q (.bl (!c)) H1) : tNotV ta σ H Q := k
theorem s_ifE (k : t σ H fun c H1 => if c = true then ta σ H1 Q else tb σ H1 Q) : tIf t ta tb σ H Q := k
theorem s_yes (k : R true H) : tYes σ H R := k
theorem s_chain (k : ta σ H fun x H1 => tb σ H1 fun y H2 => r x y H2 fun z H3 => ∃ k, z = .bl k ∧ (if k = true then tc σ H3 fun w' H4 => r' y w' H4 Q else Q (.bl false) H3)) : tChain r r' ta tb tc σ H Q := k
theorem s_T {b : Bool} (h : b = true) (k : A) : if b = true then A else B := by rw [if_pos h]; exact k
theorem s_F {b : Bool} (h : b = false) (k : B) : if b = true then A else B := by rw [if_neg (by rw [h]; decide)]; exact k
theorem s_2 {b : Bool} (k1 : b = true → A) (k2 : b = false → B) : if b = true then A else B := by
  cases b with
  | true => exact s_T rfl (k1 rfl)
  | false => exact s_F rfl (k2 rfl)
theorem s_nT (k : B) : if (!true) = true then A else B := s_F rfl k
theorem s_nF (k : A) : if (!false) = true then A else B := s_T rfl k
theorem s_Td {P : Prop} [Decidable P] (h : P) (k : A) : if decide P = true then A else B := s_T (decide_eq_true h) k
theorem s_Fd {P : Prop} [Decidable P] (h : ¬ P) (k : B) : if decide P = true then A else B := s_F (decide_eq_false h) k
theorem s_nTd {P : Prop} [Decidable P] (h : ¬ P) (k : A) : if (!decide P) = true then A else B := s_T (by rw [decide_eq_false h]; rfl) k
theorem s_nFd {P : Prop} [Decidable P] (h : P) (k : B) : if (!decide P) = true then A else B := s_F (by rw [decide_eq_true h]; rfl) k
theorem s_nB {b : Bool} (h : b = true) (k : B) : if (!b) = true then A else B := s_F (by rw [h]; rfl) k
theorem s_nA {b : Bool} (h : b = false) (k : A) : if (!b) = true then A else B := s_T (by rw [h]; rfl) k
theorem s_addI {i j : Int} (k : Q (.int (i + j)) H) : rAddI (.int i) (.int j) H Q := ⟨i, j, rfl, rfl, k⟩
theorem s_subI {i j : Int} (k : Q (.int (i - j)) H) : rSubI (.int i) (.int j) H Q := ⟨i, j, rfl, rfl, k⟩
theorem s_mulI {i j : Int} (h : CMul i j) (k : Q (.int (i * j)) H) : rMulI (.int i) (.int j) H Q := ⟨i, j, rfl, rfl, h, k⟩
theorem s_divI {i j : Int} (h : CDiv i j) (k : Q (.int (i / j)) H) : rDivI (.int i) (.int j) H Q := ⟨i, j, rfl, rfl, h, k⟩
theorem s_modI {i j : Int} (h : 0 < j) (k : Q (.int (i % j)) H) : rModI (.int i) (.int j) H Q := ⟨i, j, rfl, rfl, h, k⟩
theorem s_powI {i j : Int} (h : CPow i j) (k : Q (.int (i ^ j.toNat)) H) : rPowI (.int i) (.int j) H Q := ⟨i, j, rfl, rfl, h, k⟩
theorem s_ltI {i j : Int} (k : Q (.bl (decide (i < j))) H) : rLtI (.int i) (.int j) H Q := ⟨i, j, rfl, rfl, k⟩
theorem s_leI {i j : Int} (k : Q (.bl (decide (i ≤ j))) H) : rLeI (.int i) (.int j) H Q := ⟨i, j, rfl, rfl, k⟩
theorem s_gtI {i j : Int} (k : Q (.bl (decide (j < i))) H) : rGtI (.int i) (.int j) H Q := ⟨i, j, rfl, rfl, k⟩
theorem s_geI {i j : Int} (k : Q (.bl (decide (j ≤ i))) H) : rGeI (.int i) (.int j) H Q := ⟨i, j, rfl, rfl, k⟩
theorem s_negI {i : Int} (k : Q (.int (-i)) H) : rNegI (.int i) H Q := ⟨i, rfl, k⟩
theorem s_absI {i : Int} (k : Q (.int (if i < 0 then -i else i)) H) : rAbsI [.int i] H Q := ⟨i, rfl, k⟩
theorem s_intI {i : Int} (k : Q (.int i) H) : rIntI [.int i] H Q := .inl ⟨i, rfl, k⟩
theorem s_min2 {i j : Int} (k : Q (.int (if j < i then j else i)) H) : rMin2 [.int i, .int j] H Q := ⟨i, j, rfl, k⟩
theorem s_max2 {i j : Int} (k : Q (.int (if j > i then j else i)) H) : rMax2 [.int i, .int j] H Q := ⟨i, j, rfl, k⟩
theorem s_addS {a b : List Nat} (h : a.length + b.length ≤ sizeLine) (k : Q (vS (a ++ b)) H) : rAddS (vS a) (vS b) H Q := ⟨a, b, rfl, rfl, h, k⟩
theorem s_eqI {i j : Int} (k : Q (.bl (decide (i = j))) H) : rEq (.int i) (.int j) H Q := ⟨rfl, by
  have : decide (V.int i = V.int j) = decide (i = j) := by simp
  rw [this]; exact k⟩
theorem s_neI {i j : Int} (k : Q (.bl (!decide (i = j))) H) : rNe (.int i) (.int j) H Q := ⟨rfl, by
  have : decide (V.int i = V.int j) = decide (i = j) := by simp
  rw [this]; exact k⟩
theorem vS_eq {a b : List Nat} : (vS a = vS b) ↔ a = b := ⟨fun h => S_inj (V.str.inj h), fun h => by rw [h]⟩
theorem s_eqS {a b : List Nat} (k : Q (.bl (decide (a = b))) H) : rEq (vS a) (vS b) H Q := ⟨rfl, by
  have : decide (V.str (S a) = V.str (S b)) = decide (a = b) := by simp only [show (V.str (S a) = V.str (S b)) ↔ a = b from vS_eq]
  rw [this]; exact k⟩
theorem s_neS {a b : List Nat} (k : Q (.bl (!decide (a = b))) H) : rNe (vS a) (vS b) H Q := ⟨rfl, by
  have : decide (V.str (S a) = V.str (S b)) = decide (a = b) := by simp only [show (V.str (S a) = V.str (S b)) ↔ a = b from vS_eq]
  rw [this]; exact k⟩
theorem s_inSg {c : Nat} {l : List Nat} (k : Q (.bl (decide (c ∈ l))) H) : rInSg (vS [c]) (vS l) H Q := ⟨c, S l, rfl, rfl, by rw [S_cps]; exact k⟩
theorem s_notInSg {c : Nat} {l : List Nat} (k : Q (.bl (!decide (c ∈ l))) H) : rNotInSg (vS [c]) (vS l) H Q := ⟨c, S l, rfl, rfl, by rw [S_cps]; exact k⟩
theorem s_lenS {l : List Nat} (h : l.length ≤ sizeLine) (k : Q (.int l.length) H) : rLenV K [vS l] H Q := ⟨vS l, l.length, rfl, ⟨by rw [S_len]; exact h, (S_len l).symm⟩, k⟩
theorem s_lenL {a : Addr} {xs : List V} (h : SqL K H a xs) (k : Q (.int xs.length) H) : rLenV K [.ref a] H Q := ⟨_, _, rfl, .inl ⟨xs, h, rfl⟩, k⟩
theorem s_lenT {a : Addr} {xs : List V} (h : SqT K H a xs) (k : Q (.int xs.length) H) : rLenV K [.ref a] H Q := ⟨_, _, rfl, .inr ⟨xs, h, rfl⟩, k⟩
theorem s_isiII {i : Int} (k : Q (.bl true) H) : rIsi K [.int i, .ty "int"] H Q := ⟨_, _, _, _, _, rfl, .ty _, .base (.int _), kit_ty (by decide +kernel), k⟩
theorem s_isiIB {i : Int} (k : Q (.bl false) H) : rIsi K [.int i, .ty "bool"] H Q := ⟨_, _, _, _, _, rfl, .ty _, .base (.int _), kit_ty (by decide +kernel), k⟩
theorem s_isiSS {z : Str} (k : Q (.bl true) H) : rIsi K [.str z, .ty "str"] H Q := ⟨_, _, _, _, _, rfl, .ty _, .base (.str _), kit_ty (by decide +kernel), k⟩
theorem s_all {a : Addr} {bs : List Bool} (h : SqL K H a (bs.map V.bl)) (k : Q (.bl (bs.all id)) H) : rAll K [.ref a] H Q := ⟨a, bs, rfl, h, k⟩
theorem s_cat {a b : Addr} {xs ys : List V} (h1 : H a = some (.lst xs)) (h2 : H b = some (.lst ys)) (hl : xs.length + ys.length ≤ sizeLine) (k : ∀ p H2, H p = none → Ex [] H H2 → H2 p = some (.lst (xs ++ ys)) → Q (.ref p) H2) : rCat (.ref a) (.ref b) H Q := ⟨a, b, xs, ys, rfl, rfl, h1, h2, hl, s_new k⟩
theorem s_divmod {i j : Int} (h : CDivP i j) (k : ∀ p H2, H p = none → Ex [] H H2 → H2 p = some (.tup [.int (i / j), .int (i % j)]) → Q (.ref p) H2) : rDivmod [.int i, .int j] H Q := ⟨i, j, rfl, h, s_new k⟩
theorem s_ixL {a : Addr} {xs : List V} {n : Int} (h : SqL K H a xs) (hi : atI xs n = some v) (k : Q v H) : rIxL K (.ref a) (.int n) H Q := ⟨a, xs, n, v, rfl, rfl, h, hi, k⟩
theorem s_ixT {a : Addr} {xs : List V} {n : Int} (h : SqT K H a xs) (hi : atI xs n = some v) (k : Q v H) : rIxT K (.ref a) (.int n) H Q := ⟨a, xs, n, v, rfl, rfl, h, hi, k⟩
theorem s_ixS {l : List Nat} {n : Int} {c : Nat} (hl : l.length ≤ sizeLine) (hi : atI l n = some c) (k : Q (vS [c]) H) : rIxS (vS l) (.int n) H Q := ⟨S l, n, c, rfl, rfl, by rw [S_len]; exact hl, by rw [S_cps]; exact hi, k⟩
theorem s_revS (k : te σ H fun x H1 => RevG x H1 Q) : tRevS te σ H Q := k
theorem s_revS1 {l : List Nat} (h : l.length ≤ sizeLine) (k : Q (vS l.reverse) H) : RevG (vS l) H Q := ⟨l, rfl, h, k⟩
def cut (l : List Nat) (lo hi : Option Int) : List Nat := (l.drop (HT.sIx l.length 0 lo)).take (HT.sIx l.length l.length hi - HT.sIx l.length 0 lo)
theorem s_sl {r : V → Option Int → Option Int → Hp → VK → Prop} {tl th : TO} (k : te σ H fun x H1 => tl σ H1 fun l H2 => th σ H2 fun u H3 => r x l u H3 Q) : tSl r te tl th σ H Q := k
theorem s_noPart {R : Option Int → Hp → Prop} (k : R none H) : tNoPart σ H R := k
theorem s_part {R : Option Int → Hp → Prop} (k : te σ H fun x H1 => ∃ i, x = .int i ∧ R (some i) H1) : tPart te σ H R := k
theorem s_int1 {n : Int} {P : Int → Prop} (k : P n) : ∃ i, V.int n = .int i ∧ P i := ⟨n, rfl, k⟩
theorem s_slS {l : List Nat} {lo hi : Option Int} (h : l.length ≤ sizeLine) (k : Q (vS (cut l lo hi)) H) : rSlS (vS l) lo hi H Q := ⟨S l, rfl, by rw [S_len]; exact h, by
  have e : cutS (S l) lo hi = S (cut l lo hi) := by
    unfold cutS cut
    rw [S_len, S_cps]
    rfl
  rw [e]
  exact k⟩
theorem s_slL {a : Addr} {xs : List V} {lo hi : Option Int} (h : SqL K H a xs) (k : ∀ p H2, H p = none → Ex [] H H2 → H2 p = some (.lst (cutV xs lo hi)) → Q (.ref p) H2) : rSlL K (.ref a) lo hi H Q := ⟨a, xs, rfl, h, s_new k⟩
theorem cut_from {l : List Nat} {n : Int} (h0 : 0 ≤ n) : cut l (some n) none = l.drop n.toNat := by
  unfold cut
  have e : HT.sIx l.length 0 (some n) = min n.toNat l.length := by
    show (if n < 0 then (n + (l.length : Int)).toNat else min n.toNat l.length) = _
    rw [if_neg (by omega)]
  have e2 : HT.sIx l.length l.length none = l.length := rfl
  rw [e, e2]
  rcases Nat.le_total n.toNat l.length with h | h
  · rw [Nat.min_eq_left h, List.take_of_length_le (by simp)]
  · rw [Nat.min_eq_right h, List.drop_of_length_le h]
    simp
theorem cut_to {l : List Nat} {n : Int} (h0 : 0 ≤ n) : cut l none (some n) = l.take n.toNat := by
  unfold cut
  have e : HT.sIx l.length l.length (some n) = min n.toNat l.length := by
    show (if n < 0 then (n + (l.length : Int)).toNat else min n.toNat l.length) = _
    rw [if_neg (by omega)]
  have e2 : HT.sIx l.length 0 none = 0 := rfl
  rw [e, e2]
  rcases Nat.le_total n.toNat l.length with h | h
  · rw [Nat.min_eq_left h]; simp
  · rw [Nat.min_eq_right h, List.take_of_length_le h]; simp
theorem s_M1 {r : V → List V → Hp → VK → Prop} (k : ta σ H fun x H1 => (∃ a, x = .str a) ∧ te σ H1 fun y H2 => r x [y] H2 Q) : tM1 r ta te σ H Q := k
theorem s_isStr {z : Str} {B : Prop} (k : B) : (∃ a, V.str z = .str a) ∧ B := ⟨⟨z, rfl⟩, k⟩
theorem joinL_nil : ∀ ls : List (List Nat), TL.joinL [] ls = ls.flatten
  | [] => rfl
  | [p] => by simp [TL.joinL]
  | p :: q :: r => by
    show p ++ ([] ++ TL.joinL [] (q :: r)) = _
    rw [joinL_nil (q :: r)]
    simp
theorem join_empty (ls : List (List Nat)) : Txt.join (S []) (ls.map S) = S ls.flatten := by
  rw [TL.join_eq, S_of (Str.join (S []) (ls.map S))]
  have := TL.tl_join (S []) (ls.map S)
  unfold TL.tl at this
  rw [this, List.map_map]
  have e : ls.map ((fun x : Str => x.cps.toList) ∘ S) = ls := by
    conv => rhs; rw [← List.map_id ls]
    apply List.map_congr_left
    intro z _
    exact S_cps z
  show S (TL.joinL (S []).cps.toList (ls.map ((fun x : Str => x.cps.toList) ∘ S))) = _
  rw [e, S_cps, joinL_nil]
theorem s_join0 {a : Addr} {ls : List (List Nat)} (h : SqL K H a (ls.map vS)) (hz : ls.flatten.length ≤ 16777216) (k : Q (vS ls.flatten) H) : rJoin K (vS []) [.ref a] H Q := by
  refine ⟨S [], a, ls.map S, rfl, rfl, .inl ?_, ?_, ?_⟩
  · rw [List.map_map]; exact h
  · rw [List.map_map]
    have e1 : (ls.map ((fun x : Str => x.length) ∘ S)) = ls.map List.length := by
      apply List.map_congr_left
      intro z _
      exact S_len z
    rw [e1, S_len]
    simpa using hz
  · rw [join_empty]; exact k
theorem s_fldE {f : Str} (k : ta σ H fun x H1 => FldG K f x H1 Q) : tFld K ta f σ H Q := k
theorem s_propE {C : Addr} {sp : Sp} {dvs : List V} {E : XK} (k : ta σ H fun x H1 => PropG C sp dvs E x H1 Q) : tProp C sp dvs E ta σ H Q := k
theorem s_makeE {C : Addr} {sp : Sp} {dvs : List V} {E : XK} (k : tr σ H fun vs H1 => MakeG C sp dvs E vs H1 Q) : tMake C sp dvs E tr σ H Q := k
theorem s_methE {C : Addr} {m : Str} {sp : Sp} {dvs : List V} {E : XK} (k : ta σ H fun x H1 => MethG C m sp dvs E tr σ x H1 Q) : tMeth C m sp dvs E ta tr σ H Q := k
end
theorem s_setL {a : Addr} {xs : List V} {j : Nat} {v : V} {H : Hp} {R : Hp → Prop} {n : Int} (h : H a = some (.lst xs)) (hj : ixN xs.length n = some j) (k : ∀ H2, Ex [a] H H2 → H2 a = some (.lst (xs.set j v)) → R H2) : rSetL (.ref a) (.int n) v H R := ⟨a, xs, n, j, rfl, rfl, h, hj, k _ (Ex.put (by simp)) upd_same⟩
theorem s_gSub {ta tb : TE} {t : TSet} {v : V} {σ : St} {H : Hp} {R : St → Hp → Prop} (k : ta σ H fun o H1 => tb σ H1 fun i H2 => t o i v H2 fun H3 => R σ H3) : gSub ta tb t v σ H R := k
theorem s_gTup {K : PySem.W.Frag} {a : Addr} {xs : List V} {n : Nat} {t : TGs} {σ : St} {H : Hp} {R : St → Hp → Prop} (h : SqT K H a xs) (hn : xs.length = n) (k : t xs σ H R) : gTup K n t (.ref a) σ H R := ⟨a, xs, rfl, h, hn, k⟩
theorem s_gLst {K : PySem.W.Frag} {a : Addr} {xs : List V} {n : Nat} {t : TGs} {σ : St} {H : Hp} {R : St → Hp → Prop} (h : SqL K H a xs) (hn : xs.length = n) (k : t xs σ H R) : gLst K n t (.ref a) σ H R := ⟨a, xs, rfl, h, hn, k⟩
theorem s_gCons {t : TG} {u : TGs} {v : V} {r : List V} {σ : St} {H : Hp} {R : St → Hp → Prop} (k : t v σ H fun σ' H' => u r σ' H' R) : gCons t u (v :: r) σ H R := ⟨v, r, rfl, k⟩
theorem s_gNil {σ : St} {H : Hp} {R : St → Hp → Prop} (k : R σ H) : gNil [] σ H R := ⟨rfl, k⟩
section
variable {n b c : St → Hp → Prop} {rt : VK} {σ : St} {H : Hp} {te : TE} {tt : TT} {t u : TS} {i : Nat} {K : PySem.W.Frag}
theorem s_seq (k : t ⟨u ⟨n, rt, b, c⟩, rt, b, c⟩ σ H) : tSeq t u ⟨n, rt, b, c⟩ σ H := k
theorem s_sfld {ta tv : TE} {f : Str} (k : tv σ H fun y H1 => ta σ H1 fun x H2 => SetG K f y x H2 (n σ)) : sFld K ta tv f ⟨n, rt, b, c⟩ σ H := k
theorem s_next (k : n σ H) : tNext ⟨n, rt, b, c⟩ σ H := k
theorem s_asg {g : TG} (k : te σ H fun x H1 => g x σ H1 n) : tAsg te g ⟨n, rt, b, c⟩ σ H := k
theorem s_gName {v : V} {R : St → Hp → Prop} (k : R (σ.set i (some v)) H) : gName i v σ H R := k
theorem s_ret (k : te σ H rt) : tRet te ⟨n, rt, b, c⟩ σ H := k
theorem s_drop (k : te σ H fun _ H1 => n σ H1) : tDrop te ⟨n, rt, b, c⟩ σ H := k
theorem s_ifS (k : tt σ H fun q H1 => if q = true then t ⟨n, rt, b, c⟩ σ H1 else u ⟨n, rt, b, c⟩ σ H1) : tIfS tt t u ⟨n, rt, b, c⟩ σ H := k
theorem s_par {i j : Nat} {ta : TA} (k : ta σ H fun vs H1 => ∃ v w, vs = [v, w] ∧ n ((σ.set i (some v)).set j (some w)) H1) : tPar i j ta ⟨n, rt, b, c⟩ σ H := k
theorem s_pair {v w : V} {P : V → V → Prop} (k : P v w) : ∃ v' w', [v, w] = [v', w'] ∧ P v' w' := ⟨v, w, rfl, k⟩
end
end WB
namespace WB
open PySem PySem.Spec PyProof.Rows L2
theorem wipe1 (σ : St) (j : Nat) (x : Option V) : wipe ((wipe σ [j]).set j x) [j] = wipe σ [j] := by
  show ((σ.set j none).set j x).set j none = σ.set j none
  rw [List.set_set, List.set_set]
def LcW (J : It) (g : TG) (tt : TT) (te : TE) (vs : List Nat) (σ : St) (H1 : Hp) (Q : VK) : Prop := ∀ D, H1 D = none → ∃ W : Nat → Nat → Hp → Prop, (∃ m, W 0 m (upd H1 D (.lst []))) ∧ ∀ i m H, W i m H →
  (J.stop i H ∧ Q (.ref D) H) ∨ (J.go i H ∧ ∃ Nx : Hp → Prop, (∀ H', Nx H' → ∃ m', m' < m ∧ W (i + 1) m' H') ∧ ∀ x H', J.yld i H x H' → g x (wipe σ vs) H' fun σ2 H2 => wipe σ2 vs = wipe σ vs ∧ tt σ2 H2 fun b H3 =>
    if b = true then te σ2 H3 fun y H4 => ∃ acc, H4 D = some (.lst acc) ∧ acc.length < sizeLine ∧ Nx (upd H4 D (.lst (acc ++ [y]))) else Nx H3)
theorem s_lc {wi : TI} {g : TG} {tt : TT} {te : TE} {vs : List Nat} {σ : St} {H : Hp} {Q : VK} (k : wi σ H fun J H1 => LcW J g tt te vs σ H1 Q) : tLc wi g tt te vs σ H Q := k
theorem s_rng1 {ta : TA} {σ : St} {H : Hp} {R : It → Hp → Prop} (k : ta σ H fun vs H1 => ∃ j : Int, vs = [.int j] ∧ -(2 ^ 62) ≤ j ∧ j < 2 ^ 62 ∧ R (Itr 0 j.toNat) H1) : iRng1 ta σ H R := k
theorem s_rng1i {j : Int} {C : Int → Prop} (h : -1000000 ≤ j ∧ j ≤ 1000000) (k : C j) : ∃ j' : Int, [V.int j] = [.int j'] ∧ -(2 ^ 62) ≤ j' ∧ j' < 2 ^ 62 ∧ C j' := ⟨j, rfl, by omega, by omega, k⟩
theorem s_rng2 {ta : TA} {σ : St} {H : Hp} {R : It → Hp → Prop} (k : ta σ H fun vs H1 => ∃ i j : Int, vs = [.int i, .int j] ∧ (-(2 ^ 62) ≤ i ∧ i < 2 ^ 62 ∧ -(2 ^ 62) ≤ j ∧ j < 2 ^ 62) ∧ R (Itr i (j - i).toNat) H1) : iRng2 ta σ H R := k
theorem s_rng2i {i j : Int} {C : Int → Int → Prop} (h : -1000000 ≤ i ∧ i ≤ 1000000 ∧ -1000000 ≤ j ∧ j ≤ 1000000) (k : C i j) : ∃ i' j' : Int, [V.int i, V.int j] = [.int i', .int j'] ∧ (-(2 ^ 62) ≤ i' ∧ i' < 2 ^ 62 ∧ -(2 ^ 62) ≤ j' ∧ j' < 2 ^ 62) ∧ C i' j' := ⟨i, j, rfl, by omega, k⟩
theorem s_iStr {te : TE} {σ : St} {H : Hp} {R : It → Hp → Prop} (k : te σ H fun v H1 => ∃ x, v = .str x ∧ R (Its x) H1) : iStr te σ H R := k
theorem s_iStrS {l : List Nat} {C : Str → Prop} (k : C (S l)) : ∃ x, vS l = .str x ∧ C x := ⟨_, rfl, k⟩
theorem s_iList {K : PySem.W.Frag} {te : TE} {σ : St} {H : Hp} {R : It → Hp → Prop} (k : te σ H fun x H1 => ∃ a, x = .ref a ∧ (∃ xs, SqL K H1 a xs) ∧ R (Itl K a) H1) : iList K te σ H R := k
theorem s_iListA {K : PySem.W.Frag} {a : Addr} {xs : List V} {H : Hp} {C : Addr → Prop} (h : SqL K H a xs) (k : C a) : ∃ b, V.ref a = .ref b ∧ (∃ xs, SqL K H b xs) ∧ C b := ⟨a, rfl, ⟨xs, h⟩, k⟩
theorem s_iTup {K : PySem.W.Frag} {te : TE} {σ : St} {H : Hp} {R : It → Hp → Prop} (k : te σ H fun x H1 => ∃ a, x = .ref a ∧ (∃ xs, SqT K H1 a xs) ∧ R (Itt K a) H1) : iTup K te σ H R := k
theorem s_iTupA {K : PySem.W.Frag} {a : Addr} {xs : List V} {H : Hp} {C : Addr → Prop} (h : SqT K H a xs) (k : C a) : ∃ b, V.ref a = .ref b ∧ (∃ xs, SqT K H b xs) ∧ C b := ⟨a, rfl, ⟨xs, h⟩, k⟩
theorem lc_run {J : It} {n : Nat} {G : Hp → Prop} {Y : Nat → Hp → V → Hp → Prop} {g : TG} {tt : TT} {te : TE} {vs : List Nat} {σ : St} {H : Hp} {Q : VK} (w : Walk J n G Y) (hn : n ≤ 100000)
    (m : List Addr) (R : Hp → Prop) (Acc : Nat → List V → Hp → Prop) (hm : ∀ a ∈ m, H a ≠ none) (r0 : R H) (a0 : Acc 0 [] H)
    (rU : ∀ H1 D o, D ∉ m → R H1 → R (upd H1 D o)) (aU : ∀ i acc H1 D o, (H1 D = none ∨ ∃ l, H1 D = some (.lst l)) → Acc i acc H1 → Acc i acc (upd H1 D (.lst o)))
    (hG : ∀ H1, Ex m H H1 → G H1)
    (step : ∀ (i : Nat) (acc : List V) (x : V) (H1 H2 : Hp) (C1 : VK) (C0 : Hp → Prop), i < n → Ex m H H1 → R H1 → Acc i acc H1 → Y i H1 x H2 →
      (∀ y H5, Ex m H1 H5 → R H5 → Acc (i + 1) (acc ++ [y]) H5 → C1 y H5) → (∀ H4, Ex m H1 H4 → R H4 → Acc (i + 1) acc H4 → C0 H4) →
      g x (wipe σ vs) H2 fun σ2 H3 => wipe σ2 vs = wipe σ vs ∧ tt σ2 H3 fun b H4 => if b = true then te σ2 H4 C1 else C0 H4)
    (k : ∀ D H' ys, H D = none → Ex m H H' → R H' → H' D = some (.lst ys) → ys.length ≤ n → Acc n ys H' → Q (.ref D) H') : LcW J g tt te vs σ H Q := by
  intro D hD
  have nD : D ∉ m := fun z => hm D z hD
  refine lc_it w (fun i H1 => Ex m H H1 ∧ R H1 ∧ ∃ acc, H1 D = some (.lst acc) ∧ acc.length ≤ i ∧ Acc i acc H1) ⟨Ex.new hD, rU _ _ _ nD r0, [], upd_same, Nat.le_refl _, aU _ _ _ _ _ (.inl hD) a0⟩ (fun i H1 _ h => hG H1 h.1) ?_ ?_
  · rintro i x H1 H2 hi ⟨e, r, acc, hd, hl, ha⟩ hy
    refine step i acc x H1 H2 _ _ hi e r ha hy (fun y H5 e5 r5 a5 => ?_) (fun H4 e4 r4 a4 => ?_)
    · have hd5 : H5 D = some (.lst acc) := e5 D _ nD hd
      refine ⟨acc, hd5, Nat.lt_of_le_of_lt (Nat.le_trans hl (Nat.le_trans (Nat.le_of_lt hi) hn)) (by decide), ?_, rU _ _ _ nD r5, acc ++ [y], upd_same, by rw [List.length_append]; simp; omega, aU _ _ _ _ _ (.inr ⟨acc, hd5⟩) a5⟩
      intro b o nb hb
      rw [upd_ne (ne_of_none hb hD)]
      exact e5 b o nb (e b o nb hb)
    · exact ⟨e.trans e4, r4, acc, e4 D _ nD hd, by omega, a4⟩
  · rintro H1 ⟨e, r, acc, hd, hl, ha⟩
    exact k D H1 acc hD e r hd hl ha
theorem lc_mapS {l : List Nat} {j : Nat} {tt : TT} {te : TE} {σ : St} {H : Hp} {Q : VK} (hn : l.length ≤ 100000) (p : Nat → Bool) (val : Nat → V)
    (h : ∀ (c : Nat) (H1 : Hp) (C1 : VK) (C0 : Hp → Prop), c ∈ l → Ex [] H H1 → (∀ H2, Ex [] H1 H2 → p c = true → C1 (val c) H2) → (∀ H2, Ex [] H1 H2 → p c = false → C0 H2) →
      tt ((wipe σ [j]).set j (some (vS [c]))) H1 fun b H2 => if b = true then te ((wipe σ [j]).set j (some (vS [c]))) H2 C1 else C0 H2)
    (k : ∀ D H', H D = none → Ex [] H H' → H' D = some (.lst ((l.filter p).map val)) → Q (.ref D) H') : LcW (Its (S l)) (gName j) tt te [j] σ H Q := by
  have hs : (S l).cps.size = l.length := by simp [S]
  have w := walk_str (z := S l)
  rw [hs] at w
  refine lc_run w hn [] (fun _ => True) (fun i acc _ => acc = ((l.take i).filter p).map val) (by simp) trivial (by simp) (fun _ _ _ _ _ => trivial) (fun _ _ _ _ _ _ h => h) (fun _ _ => trivial) ?_ ?_
  · rintro i acc x H1 H2 C1 C0 hi e _ rfl ⟨rfl, c, hc, rfl⟩ k1 k0
    have hc : l[i]? = some c := by simpa [S] using hc
    refine ⟨wipe1 _ _ _, ?_⟩
    refine h c H2 C1 C0 (List.mem_of_getElem? hc) e (fun H5 e5 hp => k1 _ H5 e5 trivial ?_) (fun H5 e5 hp => k0 H5 e5 trivial ?_)
    · rw [List.take_add_one, hc, List.filter_append, List.map_append]
      simp [hp]
    · rw [List.take_add_one, hc, List.filter_append, List.map_append]
      simp [hp]
  · rintro D H' ys hD e _ hd _ rfl
    rw [← hs] at hd
    have : l.take (S l).cps.size = l := by rw [hs]; exact List.take_length
    rw [this] at hd
    exact k D H' hD e hd
def ForW (J : It) (g : TG) (tb : TS) (D : Ends) (σ : St) (H : Hp) : Prop := ∃ W : Nat → Nat → St → Hp → Prop, (∃ m, W 0 m σ H) ∧ ∀ i m σ H, W i m σ H →
  (J.stop i H ∧ D.nx σ H) ∨ (J.go i H ∧ ∃ N : St → Hp → Prop, (∀ σ' H', N σ' H' → ∃ m', m' < m ∧ W (i + 1) m' σ' H') ∧ ∀ x H', J.yld i H x H' → g x σ H' fun σ2 H2 => tb { D with nx := N, ct := N, bk := D.nx } σ2 H2)
theorem s_for {wi : TI} {g : TG} {tb : TS} {n b c : St → Hp → Prop} {rt : VK} {σ : St} {H : Hp} (k : wi σ H fun J H1 => ForW J g tb ⟨n, rt, b, c⟩ σ H1) : tFor wi g tb ⟨n, rt, b, c⟩ σ H := k
theorem for_run {J : It} {m : Nat} {G : Hp → Prop} {Y : Nat → Hp → V → Hp → Prop} {g : TG} {tb : TS} {n b c : St → Hp → Prop} {rt : VK} {σ : St} {H : Hp} (w : Walk J m G Y) (Pv : Nat → St → Hp → Prop) (h0 : Pv 0 σ H) (hG : ∀ i σ H, i ≤ m → Pv i σ H → G H)
    (hs : ∀ i x σ H H', i < m → Pv i σ H → Y i H x H' → g x σ H' fun σ2 H2 => tb ⟨Pv (i + 1), rt, n, Pv (i + 1)⟩ σ2 H2) (hd : ∀ σ H, Pv m σ H → n σ H) : ForW J g tb ⟨n, rt, b, c⟩ σ H :=
  for_it (D := ⟨n, rt, b, c⟩) w Pv h0 hG hs hd
theorem for_rng {lo : Int} {m : Nat} {g : TG} {tb : TS} {n b c : St → Hp → Prop} {rt : VK} {σ : St} {H : Hp} (Pv : Nat → St → Hp → Prop) (h0 : Pv 0 σ H)
    (hs : ∀ (i : Nat) σ H, i < m → Pv i σ H → g (.int (lo + i)) σ H fun σ2 H2 => tb ⟨Pv (i + 1), rt, n, Pv (i + 1)⟩ σ2 H2) (hd : ∀ σ H, Pv m σ H → n σ H) : ForW (Itr lo m) g tb ⟨n, rt, b, c⟩ σ H := by
  refine for_run walk_range Pv h0 (fun _ _ _ _ _ => trivial) ?_ hd
  rintro i x σ H H' hi hp ⟨rfl, rfl⟩
  exact hs i σ _ hi hp
theorem atI_of {α : Type} {xs : List α} {n : Int} {v : α} (h0 : 0 ≤ n) (h : xs[n.toNat]? = some v) : atI xs n = some v := by
  have h1 : n.toNat < xs.length := (List.getElem?_eq_some_iff.mp h).1
  unfold atI ixN
  rw [if_pos h0, if_pos (by omega)]
  exact h
theorem mem_cutV {xs : List V} {lo hi : Option Int} {x : V} (h : x ∈ cutV xs lo hi) : x ∈ xs := List.mem_of_mem_drop (List.mem_of_mem_take h)
end WB
namespace WB
open PySem PySem.Spec PyProof.Rows L2
def rot (l : List Nat) (i : Nat) : List Nat := l.drop i ++ l.take i
def rots (l : List Nat) : List (List Nat) := (List.range l.length).map (rot l)
def leastT (l : List Nat) : List Nat := match rots l with
  | [] => []
  | x :: xs => minL x xs
abbrev LET : List Nat := [97, 98, 99, 100, 101, 102, 103, 104, 105, 106, 107, 108, 109, 110, 111, 112, 113, 114, 115, 116, 117, 118, 119, 120, 121, 122]
theorem lit_abc : ("abcdefghijklmnopqrstuvwxyz" : Str) = S LET := by decide +kernel
theorem lit_empty : ("" : Str) = S [] := by decide +kernel
def isWord (l s : List Nat) : Bool := decide (1 ≤ l.length ∧ l.length ≤ 600) && l.all fun c => decide (c ∈ s)
theorem flat1 : ∀ ls : List Nat, (ls.map fun c => [c]).flatten = ls
  | [] => rfl
  | c :: r => by rw [List.map_cons, List.flatten_cons, flat1 r]; rfl
def KD : List String := ["int", "bool", "str", "NoneType", "list", "tuple", "dict"]
structure RingK (K : PySem.W.Frag) : Prop where
  cl : Cls K (He.ga K "Ring")
  na : NoAttr K (He.ga K "Ring") "least"
  ty : ∀ (H : Hp) (a dx : Addr) (fs : List (Str × V)), H a = some (.ins (He.ga K "Ring") dx fs) → TyX K H (.ref a) (.ref (He.ga K "Ring"))
  me : PySem.W.kitOne K (.ref (He.ga K "Ring")) (.ref (He.ga K "Ring")) = some true
  no : ∀ n ∈ KD, PySem.W.kitOne K (.type n) (.ref (He.ga K "Ring")) = some false
def RingAt (K : PySem.W.Frag) (H : Hp) (a : Addr) (l : List Nat) : Prop := ∃ dx, H a = some (.ins (He.ga K "Ring") dx [("least", vS l)])
theorem RingAt.ex' {K : PySem.W.Frag} {H H' : Hp} {a : Addr} {l : List Nat} {m : List Addr} (h : RingAt K H a l) (e : Ex m H H') (n : a ∉ m) : RingAt K H' a l := by
  obtain ⟨dx, h⟩ := h
  exact ⟨dx, e a _ n h⟩
theorem RingAt.ex {K : PySem.W.Frag} {H H' : Hp} {a : Addr} {l : List Nat} {m : List Addr} (e : Ex m H H') (n : a ∉ m) (h : RingAt K H a l) : RingAt K H' a l := by
  obtain ⟨dx, h⟩ := h
  exact ⟨dx, e a _ n h⟩
def RingOf (K : PySem.W.Frag) (x y : V) (H : Hp) : Prop := ∃ w a, x = vS w ∧ y = .ref a ∧ RingAt K H a (leastT w)
theorem RingOf.ex {K : PySem.W.Frag} {x y : V} {H H' : Hp} (e : Ex [] H H') (h : RingOf K x y H) : RingOf K x y H' := by
  obtain ⟨w, a, h1, h2, h3⟩ := h
  exact ⟨w, a, h1, h2, h3.ex' e (by simp)⟩
theorem RingAt.uniq {K : PySem.W.Frag} {H : Hp} {a : Addr} {l m : List Nat} (h : RingAt K H a l) (h2 : RingAt K H a m) : l = m := by
  obtain ⟨dx, h⟩ := h
  obtain ⟨dy, h2⟩ := h2
  rw [h] at h2
  have e := Option.some.inj h2
  injection e with _ _ e
  injection e with e _
  injection e with _ e
  exact vS_eq.mp e
def TextOf (K : PySem.W.Frag) (x y : V) (H : Hp) : Prop := ∃ a l, x = .ref a ∧ y = vS l ∧ RingAt K H a l
theorem TextOf.ex {K : PySem.W.Frag} {x y : V} {H H' : Hp} (e : Ex [] H H') (h : TextOf K x y H) : TextOf K x y H' := by
  obtain ⟨w, a, h1, h2, h3⟩ := h
  exact ⟨w, a, h1, h2, h3.ex' e (by simp)⟩
def Kd (K : PySem.W.Frag) (H : Hp) (v : V) (n : String) : Prop := TyX K H v (.type n) ∧ n ∈ KD
def sp_is_integer (K : PySem.W.Frag) : Sp := fun vs H Q _ => ∃ (v : V) (n : String), vs = [v] ∧ Kd K H v n ∧ Q (.bl (decide (n = "int"))) H
def sp_is_word (K : PySem.W.Frag) : Sp := fun vs H Q _ => ∃ (v : V) (s : List Nat), vs = [v, vS s] ∧ ((∃ l : List Nat, v = vS l ∧ l.length ≤ 10000 ∧ ∀ H', Ex [] H H' → Q (.bl (isWord l s)) H') ∨ (∃ n, Kd K H v n ∧ n ≠ "str" ∧ Q (.bl false) H))
def sp_Ring_text (K : PySem.W.Frag) : Sp := fun vs H Q _ => ∃ (a : Addr) (l : List Nat), vs = [.ref a] ∧ RingAt K H a l ∧ Q (vS l) H
def sp_Ring_str (K : PySem.W.Frag) : Sp := fun vs H Q _ => ∃ (a : Addr) (l : List Nat), vs = [.ref a] ∧ RingAt K H a l ∧ Q (vS l) H
def sp_Ring_eq (K : PySem.W.Frag) : Sp := fun vs H Q _ => ∃ (a : Addr) (v : V), vs = [.ref a, v] ∧ ∃ l, RingAt K H a l ∧ ((∃ b m, v = .ref b ∧ RingAt K H b m ∧ Q (.bl (decide (l = m))) H) ∨ (∃ n, Kd K H v n ∧ Q (.bl false) H))
def PoolAt (H : Hp) (a : Addr) : Prop := ∃ x y z : Int, H a = some (.lst [.int x, .int y, .int z])
def sp_law_cell (K : PySem.W.Frag) : Sp := fun vs H Q _ => ∃ (a : Addr) (ns : List Int) (k : Int), vs = [.ref a, .int k] ∧ SqL K H a (ns.map V.int) ∧ ns.length ≤ 63 ∧ 0 ≤ k ∧ k < 1000 ∧ ∀ c H', Ex [] H H' → Q (.int c) H'
def sp_law_pool (K : PySem.W.Frag) : Sp := fun vs H Q _ => ∃ c : Int, vs = [.int c] ∧ ∀ p H', H p = none → Ex [] H H' → PoolAt H' p → Q (.ref p) H'
def sp_law_draw (K : PySem.W.Frag) : Sp := fun vs H Q _ => ∃ (a : Addr) (m : Int), vs = [.ref a, .int m] ∧ 0 < m ∧ m < 1000000 ∧ PoolAt H a ∧ ∀ (r : Int) (H' : Hp), 0 ≤ r → r < m → Ex [a] H H' → PoolAt H' a → Q (.int r) H'
def sp_law_signs (K : PySem.W.Frag) : Sp := fun vs H Q _ => ∃ (a : Addr) (m : Int), vs = [.ref a, .int m] ∧ 0 < m ∧ m ≤ 4 ∧ PoolAt H a ∧
  ∀ (l : List Nat) (H' : Hp), l ≠ [] → (l.length : Int) ≤ m → (∀ c ∈ l, c ∈ LET) → l.Nodup → Ex [a] H H' → PoolAt H' a → Q (vS l) H'
def sp_law_turnings (K : PySem.W.Frag) : Sp := fun vs H Q _ => ∃ l : List Nat, vs = [vS l] ∧ l.length ≤ 10000 ∧ ∀ p H', H p = none → Ex [] H H' → H' p = some (.lst ((rots l).map vS)) → Q (.ref p) H'
theorem PoolAt.ex {H H' : Hp} {a : Addr} {m : List Addr} (e : Ex m H H') (n : a ∉ m) (h : PoolAt H a) : PoolAt H' a := by
  obtain ⟨x, y, z, h⟩ := h
  exact ⟨x, y, z, e a _ n h⟩
theorem PoolAt.there {H : Hp} {a : Addr} (h : PoolAt H a) : H a ≠ none := by
  obtain ⟨x, y, z, h⟩ := h
  rw [h]
  simp
theorem PoolAt.upd {H : Hp} {a D : Addr} {o : HO} (h : PoolAt H a) (n : D ∉ [a]) : PoolAt (L2.upd H D o) a := by
  obtain ⟨x, y, z, h⟩ := h
  exact ⟨x, y, z, by rw [upd_ne (fun e => n (by rw [e]; simp))]; exact h⟩
section
variable {K : PySem.W.Frag} {H : Hp} {Q : VK} {E : XK}
theorem u_draw {a : Addr} {m : Int} (h0 : 0 < m) (h1 : m < 1000000) (hp : PoolAt H a) (k : ∀ (r : Int) (H' : Hp), 0 ≤ r → r < m → Ex [a] H H' → PoolAt H' a → Q (.int r) H') : sp_law_draw K ([.ref a, .int m] ++ []) H Q E := ⟨a, m, rfl, h0, h1, hp, k⟩
theorem u_pool {c : Int} (k : ∀ p H', H p = none → Ex [] H H' → PoolAt H' p → Q (.ref p) H') : sp_law_pool K ([.int c] ++ []) H Q E := ⟨c, rfl, k⟩
theorem u_cell {a : Addr} {n : Int} {ns : List Int} (hs : SqL K H a (ns.map V.int)) (hl : ns.length ≤ 63) (h0 : 0 ≤ n) (h1 : n < 1000) (k : ∀ c H', Ex [] H H' → Q (.int c) H') : sp_law_cell K ([.ref a, .int n] ++ []) H Q E := ⟨a, ns, n, rfl, hs, hl, h0, h1, k⟩
theorem u_signs {a : Addr} {m : Int} (h0 : 0 < m) (h1 : m ≤ 4) (hp : PoolAt H a) (k : ∀ (l : List Nat) (H' : Hp), l ≠ [] → (l.length : Int) ≤ m → (∀ c ∈ l, c ∈ LET) → l.Nodup → Ex [a] H H' → PoolAt H' a → Q (vS l) H') : sp_law_signs K ([.ref a, .int m] ++ []) H Q E := ⟨a, m, rfl, h0, h1, hp, k⟩
theorem u_turnings {l : List Nat} (hl : l.length ≤ 10000) (k : ∀ p H', H p = none → Ex [] H H' → H' p = some (.lst ((rots l).map vS)) → Q (.ref p) H') : sp_law_turnings K ([vS l] ++ []) H Q E := ⟨l, rfl, hl, k⟩
theorem Kd.int {i : Int} : Kd K H (.int i) "int" := ⟨.base (.int i), by decide +kernel⟩
theorem Kd.bl {b : Bool} : Kd K H (.bl b) "bool" := ⟨.base (.bl b), by decide +kernel⟩
theorem Kd.non : Kd K H .non "NoneType" := ⟨.base .non, by decide +kernel⟩
theorem Kd.str {l : List Nat} : Kd K H (vS l) "str" := ⟨.base (.str (S l)), by decide +kernel⟩
theorem Kd.tup {a : Addr} {xs : List V} (h : SqT K H a xs) : Kd K H (.ref a) "tuple" := by
  refine ⟨?_, by decide +kernel⟩
  rcases h with (h | ⟨o, h⟩) | ⟨o, its, n, h1, h2, _⟩
  · exact .base (.tup h)
  · exact .fTuple h
  · exact .kTuple h1 h2
theorem Kd.lst {a : Addr} {xs : List V} (h : H a = some (.lst xs)) : Kd K H (.ref a) "list" := ⟨.base (.lst h), by decide +kernel⟩
theorem u_is_integer {i : Int} (k : Q (.bl true) H) : sp_is_integer K ([.int i] ++ []) H Q E := ⟨.int i, "int", rfl, Kd.int, k⟩
theorem kitB_str {n : String} (h : n ∈ KD) (hn : n ≠ "str") : kitB n "str" = some false := by
  simp only [KD, List.mem_cons, List.not_mem_nil, or_false] at h
  rcases h with rfl | rfl | rfl | rfl | rfl | rfl | rfl
  all_goals first | exact absurd rfl hn | decide +kernel
theorem s_isiK {v : V} {n m : String} {b : Bool} (h : Kd K H v n) (hb : kitB n m = some b) (k : Q (.bl b) H) : rIsi K [v, .ty m] H Q := ⟨_, _, _, _, _, rfl, .ty _, h.1, kit_ty hb, k⟩
theorem u_is_word {l s : List Nat} (hl : l.length ≤ 10000) (k : ∀ H', Ex [] H H' → Q (.bl (isWord l s)) H') : sp_is_word K ([vS l] ++ [vS s]) H Q E := ⟨_, _, rfl, .inl ⟨l, rfl, hl, k⟩⟩
theorem u_not_word {v : V} {s : List Nat} {n : String} (h : Kd K H v n) (hn : n ≠ "str") (k : Q (.bl false) H) : sp_is_word K ([v] ++ [vS s]) H Q E := ⟨_, _, rfl, .inr ⟨n, h, hn, k⟩⟩
theorem u_fldRing {a : Addr} {l : List Nat} (F : RingK K) (h : RingAt K H a l) (k : Q (vS l) H) : FldG K "least" (.ref a) H Q := by
  obtain ⟨dx, h⟩ := h
  exact ⟨a, _, dx, _, _, rfl, h, F.cl, F.na, rfl, k⟩
theorem u_textP {a : Addr} {l : List Nat} (h : RingAt K H a l) (k : Q (vS l) H) : PropG (He.ga K "Ring") (sp_Ring_text K) [] E (.ref a) H Q := by
  obtain ⟨dx, h'⟩ := id h
  exact ⟨a, dx, _, rfl, h', a, l, rfl, h, k⟩
theorem u_strRing {a : Addr} {l : List Nat} (h : RingAt K H a l) (k : Q (vS l) H) : rStrO (He.ga K "Ring") (sp_Ring_str K) E [.ref a] H Q := by
  obtain ⟨dx, h'⟩ := id h
  exact ⟨a, dx, _, rfl, h', a, l, rfl, h, _, rfl, k⟩
theorem u_eqRing {a b : Addr} {l m : List Nat} (h : RingAt K H a l) (h2 : RingAt K H b m) (k : Q (.bl (decide (l = m))) H) : rEqO (He.ga K "Ring") (sp_Ring_eq K) E (.ref a) (.ref b) H Q := by
  obtain ⟨dx, h'⟩ := id h
  obtain ⟨dy, h2'⟩ := id h2
  exact ⟨a, dx, _, b, dy, _, rfl, rfl, h', h2', a, _, rfl, l, h, .inl ⟨b, m, rfl, h2, _, rfl, k⟩⟩
theorem u_isiRing {a : Addr} {l : List Nat} (F : RingK K) (h : RingAt K H a l) (k : Q (.bl true) H) : rIsi K [.ref a, .ref (He.ga K "Ring")] H Q := by
  obtain ⟨dx, h'⟩ := id h
  exact ⟨_, _, _, _, _, rfl, .own _, F.ty _ _ _ _ h', F.me, k⟩
theorem isWord_len {l s : List Nat} (h : isWord l s = true) : 1 ≤ l.length ∧ l.length ≤ 600 := of_decide_eq_true (Bool.and_eq_true_iff.mp h).1
theorem isWord_in {l s : List Nat} (h : isWord l s = true) : ∀ c ∈ l, c ∈ s := fun c hc => of_decide_eq_true (List.all_eq_true.mp (Bool.and_eq_true_iff.mp h).2 c hc)
theorem isWord_mk {l s : List Nat} (h1 : 1 ≤ l.length) (h2 : l.length ≤ 600) (h3 : ∀ c ∈ l, c ∈ s) : isWord l s = true := Bool.and_eq_true_iff.mpr ⟨decide_eq_true ⟨h1, h2⟩, List.all_eq_true.mpr fun c hc => decide_eq_true (h3 c hc)⟩
end
end WB
namespace WB
open PySem PySem.Spec PyProof.Rows L2
def dS (l : List Nat) : PyData := .str (S l)
def plain (l : List Nat) : Prop := ∀ c ∈ l, c < 55296
theorem strOk_S {l : List Nat} (h : plain l) : PyData.strOk (S l) = true := by
  unfold PyData.strOk
  rw [← Array.all_toList, S_cps, List.all_eq_true]
  intro c hc
  have := h c hc
  exact decide_eq_true (by omega)
theorem canLay_strs : ∀ {ls : List (List Nat)}, (∀ l ∈ ls, plain l) → PyData.canLayAll0 (ls.map dS) = true
  | [], _ => by simp [PyData.canLayAll0]
  | l :: ls, h => by
    rw [List.map_cons, PyData.canLayAll0]
    refine Bool.and_eq_true_iff.mpr ⟨?_, canLay_strs fun l hl => h l (List.mem_cons_of_mem _ hl)⟩
    unfold dS
    rw [PyData.canLay0]
    exact strOk_S (h l List.mem_cons_self)
theorem depth_strs : ∀ ls : List (List Nat), PyData.depthAll (ls.map dS) = 0
  | [] => by simp [PyData.depthAll]
  | l :: ls => by
    rw [List.map_cons, PyData.depthAll, depth_strs ls]
    simp [dS, PyData.depth]
theorem shaped_strs {ls : List (List Nat)} (h : ∀ l ∈ ls, plain l) : SeqAt.shaped (.list (ls.map dS)) = true := by
  unfold SeqAt.shaped
  refine Bool.and_eq_true_iff.mpr ⟨?_, decide_eq_true ?_⟩
  · rw [PyData.canLay0]; exact canLay_strs h
  · rw [PyData.depth, depth_strs]; omega
theorem eqv_strs : ∀ ls ms : List (List Nat), PyData.eqvAll (ls.map dS) (ms.map dS) = decide (ls = ms)
  | [], [] => by simp [PyData.eqvAll]
  | [], m :: ms => by simp [PyData.eqvAll]
  | l :: ls, [] => by simp [PyData.eqvAll]
  | l :: ls, m :: ms => by
    rw [List.map_cons, List.map_cons, PyData.eqvAll, eqv_strs ls ms]
    have : PyData.eqv (dS l) (dS m) = decide (l = m) := by
      unfold dS
      rw [PyData.eqv]
      by_cases e : l = m
      · subst e; simp
      · rw [decide_eq_false e]
        exact beq_eq_false_iff_ne.mpr fun z => e (S_inj z)
    rw [this]
    by_cases e : l = m <;> by_cases e2 : ls = ms <;> simp [e, e2]
theorem dp_strs {K : PySem.W.Frag} {H : Hp} : ∀ ls : List (List Nat), DpAll K H (ls.map vS) (ls.map dS)
  | [] => .nil
  | l :: ls => .cons (.str _) (dp_strs ls)
section
variable {K : PySem.W.Frag} {H : Hp} {Q : VK}
theorem s_neLS {a b : Addr} {ls ms : List (List Nat)} (h1 : SqL K H a (ls.map vS)) (h2 : SqL K H b (ms.map vS)) (p1 : ∀ l ∈ ls, plain l) (p2 : ∀ l ∈ ms, plain l) (k : Q (.bl (!decide (ls = ms))) H) : rNeD K (.ref a) (.ref b) H Q := by
  refine ⟨_, _, .lst h1 (dp_strs ls), .lst h2 (dp_strs ms), shaped_strs p1, shaped_strs p2, ?_⟩
  rw [PyData.eqv, eqv_strs]
  exact k
end
end WB
namespace WB
open PySem PySem.Spec PyProof.Rows L2
def rListS : List V → Hp → VK → Prop := fun xs H Q => ∃ l : List Nat, xs = [vS l] ∧ l.length ≤ sizeLine ∧ ∀ p H2, H p = none → Ex [] H H2 → H2 p = some (.lst (l.map fun c => vS [c])) → Q (.ref p) H2
theorem call_listS {X : Cx} (hc : X.calm = true) : CallR X (.type "list") rListS := by
  intro pins s σ H xs us Q I r h
  obtain ⟨l, rfl, hz, q⟩ := h
  obtain ⟨u, rfl, t, rfl⟩ := vals1 r
  have hs : (S l).cps.size = l.length := by simp [S]
  refine PySem.call_list_str (I.ok.hd hc) (S l) t (fun h' tk acc' c' hkeep hS hacc => ?_) (by rw [hs]; exact hz)
  refine ⟨.ref s.heap.objs.size, upd H s.heap.objs.size (.lst (l.map fun c => vS [c])), I.laid hkeep (Nat.le_refl _) (show ObjOk X.prog X.w _ _ _ (.lst (l.map fun c => vS [c])) from ⟨?_, acc'.toList, c', ?_, ?_⟩), rfl, q _ _ (I.hok.fresh (Nat.le_refl _)) (Ex.new (I.hok.fresh (Nat.le_refl _))) upd_same⟩
  · rw [List.length_map]; exact hz
  · have el : acc'.toList.length = acc'.size := by simp
    refine vals_of_at (by rw [List.length_map, el, hacc.1, hs]) fun j x w h1 h2 => ?_
    obtain ⟨c, u, hcu, rfl⟩ := hacc.2 j w (by rw [← Array.getElem?_toList]; exact h2)
    have hcu : l[j]? = some c := by simpa [S] using hcu
    rw [List.getElem?_map, hcu] at h1
    cases h1
    exact ⟨u, rfl⟩
  · rw [Array.toArray_toList]; exact hS
end WB
namespace WB
open PySem PySem.Spec PyProof.Rows L2
section
variable {K : PySem.W.Frag} {H : Hp} {Q : VK}
def rInStr : R2 := fun x y H Q => ∃ i j, x = .str i ∧ y = .str j ∧ Q (.bl (!(Builtin.Str.occurrences j i 0 j.length 1).isEmpty)) H
def occ (l m : List Nat) : Bool := decide (∃ i, i ≤ m.length ∧ (m.drop i).take l.length = l)
theorem occ_of {l m : List Nat} : (!(Builtin.Str.occurrences (S m) (S l) 0 (S m).length 1).isEmpty) = occ l m := by
  rw [Bool.eq_iff_iff, PySem.StrLaws.found_iff]
  unfold occ
  rw [decide_eq_true_iff]
  have hx : ∀ i, (i + (S l).length ≤ (S m).length ∧ Builtin.Str.subAt (S m) (S l) i = true) ↔ (i ≤ m.length ∧ (m.drop i).take l.length = l) := by
    intro i
    rw [S_len, S_len]
    unfold Builtin.Str.subAt
    rw [beq_iff_eq, ← Array.toList_inj, S_len]
    have e1 : ((S m).cps.extract i (i + l.length)).toList = (m.drop i).take l.length := by
      rw [Array.toList_extract, S_cps]
      simp [List.extract]
    rw [e1, S_cps]
    constructor
    · rintro ⟨h1, h2⟩
      exact ⟨by omega, h2⟩
    · rintro ⟨h1, h2⟩
      refine ⟨?_, h2⟩
      have := congrArg List.length h2
      rw [List.length_take, List.length_drop] at this
      omega
  constructor
  · rintro ⟨i, h⟩; exact ⟨i, (hx i).mp h⟩
  · rintro ⟨i, h⟩; exact ⟨i, (hx i).mpr h⟩
theorem s_inStr {l m : List Nat} (k : Q (.bl (occ l m)) H) : rInStr (vS l) (vS m) H Q := ⟨_, _, rfl, rfl, by rw [occ_of]; exact k⟩
theorem s_append {a : Addr} {xs : List V} {y : V} (h : H a = some (.lst xs)) (hz : xs.length < sizeLine) (k : ∀ H2, Ex [a] H H2 → H2 a = some (.lst (xs ++ [y])) → Q .non H2) : rAppend (.ref a) [y] H Q := ⟨a, xs, y, rfl, rfl, h, hz, k _ (Ex.put (by simp)) upd_same⟩
theorem s_popAt {a : Addr} {xs : List V} {i : Nat} {n : Int} {y : V} (h : H a = some (.lst xs)) (hn : n = i) (h0 : i < 1000000) (hy : xs[i]? = some y) (k : ∀ H2, Ex [a] H H2 → H2 a = some (.lst (xs.eraseIdx i)) → Q y H2) : rPopAt (.ref a) [.int n] H Q := by
  have hi : i < xs.length := (List.getElem?_eq_some_iff.mp hy).1
  refine ⟨a, xs, n, i, y, rfl, rfl, h, by omega, by omega, ?_, hy, k _ (Ex.put (by simp)) upd_same⟩
  subst hn
  unfold seqIndex?
  have e1 : ¬ (i : Int) < 0 := by omega
  have e2 : (0 ≤ (i : Int) && decide ((i : Int) < (xs.length : Int))) = true := by simp; omega
  simp only [e1, if_false]
  rw [if_pos (by simpa using hi)]
  rfl
theorem s_bm {te : TE} {ta : TA} {T : String} {r : V → List V → Hp → VK → Prop} {σ : L2.St} (k : te σ H fun x H1 => tyV K T x H1 ∧ ta σ H1 fun xs H2 => r x xs H2 Q) : tBM K T r te ta σ H Q := k
theorem s_tyL {a : Addr} {xs : List V} {B : Prop} (h : H a = some (.lst xs)) (k : B) : tyV K "list" (.ref a) H ∧ B := ⟨.inl ⟨rfl, xs, SqL.of h⟩, k⟩
end
end WB
namespace WB
open PySem PySem.Spec PyProof.Rows L2
abbrev Fr' := PySem.W.Frag
abbrev Fx := PySem.W.Frag → Bool
def obsW (fa : List He.Fa) (fn : List He5.DefA) (ex : List Fx) (K : Fr') : He.AlD := ((fa.all fun f => f.ok K) && (ex.all (fun f => f K) && fn.all fun d => d.ok K), fn.map fun d => He5.fnA K (d.at_ K))
def SaysW (fa : List He.Fa) (fn : List He5.DefA) (ex : List Fx) (K : Fr') : Prop := obsW fa fn ex K = He5.valA fn
def frN {α : Type} (n : Nat) (k : Nat → α) : α := Nat.rec (k 0) (fun m _ => k (m + 1)) n
def addB {α : Type} : List Addr → Nat → List Addr → (Nat → List Addr → α) → α
  | [], seen, new, k => k seen new
  | a :: r, seen, new, k => match Nat.beq (Nat.land (Nat.shiftRight seen a) 1) 1 with
    | true => addB r seen new k
    | false => frN (Nat.lor seen (Nat.shiftLeft 1 a)) fun seen' => addB r seen' (a :: new) k
def bfsB (g : Addr → Option Obj) : Nat → Nat → List Addr → List Addr → List Addr
  | 0, _, _, acc => acc
  | n + 1, seen, front, acc => addB (front.flatMap fun a => match g a with
    | some o => He.refsD o
    | none => []) seen [] fun seen' new => bfsB g n seen' new (new ++ acc)
def asB (g : Addr → Option Obj) (n : Nat) : List Addr := bfsB g n (Nat.shiftLeft 1 mainGlobals) [mainGlobals] [mainGlobals] ++ [cStatics]
def fdOf (K : Fr') (f : Addr) : FuncData := match K.lookup f with
  | some ⟨_, _, .func fd, _⟩ => fd
  | _ => PySem.W.fnOf "" "" { posonlyargs := [], args := [], vararg := none, kwonlyargs := [], kw_defaults := [], kwarg := none, defaults := [] } [] { kind := .function, names := [], isGenerator := false, isCoroutine := false } .none .none .none .none none .none .none
section
variable {fa : List He.Fa} {fn : List He5.DefA} {ex : List Fx} {K : Fr'}
theorem SaysW.b (c : SaysW fa fn ex K) : (fa.all fun f => f.ok K) = true ∧ ex.all (fun f => f K) = true ∧ (fn.all fun d => d.ok K) = true := by
  have h := congrArg (fun z : He.AlD => z.1) c
  obtain ⟨h1, h2⟩ := He.ba (show ((fa.all fun f => f.ok K) && (ex.all (fun f => f K) && fn.all fun d => d.ok K)) = true from h)
  obtain ⟨h2, h3⟩ := He.ba h2
  exact ⟨h1, h2, h3⟩
theorem SaysW.fact (c : SaysW fa fn ex K) (i : Nat) {f : He.Fa} (h : fa[i]? = some f := by rfl) : f.ok K = true := List.all_eq_true.mp c.b.1 f (List.mem_of_getElem? h)
theorem SaysW.more (c : SaysW fa fn ex K) (i : Nat) {f : Fx} (h : ex[i]? = some f := by rfl) : f K = true := List.all_eq_true.mp c.b.2.1 f (List.mem_of_getElem? h)
theorem SaysW.def_ (c : SaysW fa fn ex K) (i : Nat) {d : He5.DefA} (h : fn[i]? = some d := by rfl) : FunD K d.name d.qual d.params d.body d.scope (d.dvs K) (d.kws K) (d.at_ K) (fdOf K (d.at_ K)) := by
  have e : fn.map (fun d => He5.fnA K (d.at_ K)) = fn.map He5.DefA.val := congrArg (fun z : He.AlD => z.2) c
  have e2 : (fn.map fun d => He5.fnA K (d.at_ K))[i]? = (fn.map He5.DefA.val)[i]? := by rw [e]
  rw [List.getElem?_map, List.getElem?_map, h] at e2
  obtain ⟨fd, F⟩ := He5.DefA.funD (Option.some.inj e2) (List.all_eq_true.mp c.b.2.2 d (List.mem_of_getElem? h))
  obtain ⟨oc, od, dV, kV, doc, pm, an, cdv, ct, osl, e3, lk, r⟩ := F.ex
  have : fdOf K (d.at_ K) = fd := by
    unfold fdOf
    rw [lk]
  rw [this]
  exact F
end
def insB (x : Str) : Fx := fun K => He.eqO (PySem.W.findIn K (.ref (He.ga K x)) "__class__") (some (some (.builtin "object.__class__"))) && (He.eqO (PySem.W.specialIn K (.builtin "object.__class__") "__get__") (some (some (.builtin "getset_descriptor.__get__"))) && (decide (PySem.W.takesIn K (.builtin "object.__class__") = some true) && (decide (PySem.W.mroIn K (He.ga K x) (.type "object") = some true) && decide (PySem.W.kitOne K (.ref (He.ga K x)) (.ref (He.ga K x)) = some true))))
def noB (x : Str) : Fx := fun K => KD.all fun n => decide (PySem.W.kitOne K (.type n) (.ref (He.ga K x)) = some false)
end WB
namespace WB
open PySem PySem.Spec PyProof.Rows L2
def tup0B (p : Fr' → Addr) : Fx := fun K => match K.lookup (p K) with
  | some ⟨.type c, _, .seq its _, _⟩ => decide (c = "tuple") && decide (its.toList = [])
  | _ => false
theorem tup0B_ok {K : Fr'} {p : Fr' → Addr} (h : tup0B p K = true) (H : Hp) : SqT K H (p K) [] := by
  unfold tup0B at h
  cases q : K.lookup (p K) with
  | none =>
    rw [q] at h
    cases h
  | some o =>
    obtain ⟨oc, od, dt, osl⟩ := o
    rw [q] at h
    cases oc with
    | type c =>
      cases dt with
      | seq its n =>
        obtain ⟨h1, h2⟩ := He.ba (show (decide (c = "tuple") && decide (its.toList = [])) = true from h)
        have h3 : its.toList = [] := of_decide_eq_true h2
        refine .inr ⟨_, its, n, q, congrArg Value.type (of_decide_eq_true h1), rfl, ?_, ?_⟩
        · rw [← Array.length_toList, h3]; exact Nat.zero_le _
        · rw [h3]; exact .nil
      | _ => cases h
    | _ => cases dt <;> cases h
end WB
namespace L2
open PySem
theorem Room.u1 {k : Nat} {A : Around} (r : Room k A) : A.units + 1 < cLine := by have := r.un; omega
theorem Room.u65 {k : Nat} {A : Around} (r : Room k A) : A.units + 65 < cLine := by have := r.un; omega
end L2
namespace WB
open PySem PySem.Spec PyProof.Rows L2
abbrev Cl := Value × Option Nat × (Addr → Value → Option Addr → TS)
def wList (K : PySem.W.Frag) (D : Ends) : List Cl → WX
  | [] => fun _ _ _ _ => False
  | (c, some i, t) :: r => wAs K c i t (wList K D r) D
  | (c, none, t) :: r => fun cls d σ H => ∃ b, PySem.W.exmOne K cls c = some b ∧ (b = true → ∀ a, H a = none → t a cls d D σ H) ∧ (b = false → wList K D r cls d σ H)
inductive ClsOk (X : Cx) : List ExceptHandler → List Cl → Prop
  | none {hs : List ExceptHandler} : ClsOk X hs []
  | more {x n : Str} {c : Value} {i : Nat} {t : Addr → Value → Option Addr → TS} {b : Stmt} {bs : List Stmt} {p p' : Pos} {hs : List ExceptHandler} {l : List Cl} (hi : X.N[i]? = some n) (hk : X.env.kindOf n = some .local) (hx : Names X x c)
      (hb : ∀ (a : Addr) (o : Obj) (cl : Value) (d : Option Addr) (pn : List (Addr × Obj)), L2N.Zn cl d o → (∃ fv, o.data = .fields fv) → PSs (X.suite a ((a, o) :: pn)) (b :: bs) (t a cl d)) (r : ClsOk X hs l) :
      ClsOk X (.ExceptHandler (some (.Name x p)) (some n) (b :: bs) p' :: hs) ((c, some i, t) :: l)
  | bare {x : Str} {c : Value} {t : Addr → Value → Option Addr → TS} {b : Stmt} {bs : List Stmt} {p p' : Pos} {hs : List ExceptHandler} {l : List Cl} (hx : Names X x c)
      (hb : ∀ (a : Addr) (o : Obj) (cl : Value) (d : Option Addr) (pn : List (Addr × Obj)), L2N.Zn cl d o → (∃ fv, o.data = .fields fv) → PSs (X.suite a ((a, o) :: pn)) (b :: bs) (t a cl d)) (r : ClsOk X hs l) :
      ClsOk X (.ExceptHandler (some (.Name x p)) none (b :: bs) p' :: hs) ((c, none, t) :: l)
section
variable {X : Cx} {body : List Stmt} {h1 : ExceptHandler} {hs : List ExceptHandler} {l : List Cl} {pos : Pos} {tb : WX → TS}
theorem ps_tryL (hst : X.stack = X.env :: X.outer) (hfr : X.env.frame = some X.env.locals) (hnd : X.N.Nodup)
    (hbody : ∀ (W : WX) (pn : List (Addr × Obj)) (xe : Value → Shared → Prop), L2N.Takes (X.tr pn xe) W → PassesOwn (model X.prog X.w) X.A X.env xe → PSs (X.tr pn xe) body (tb W)) (hcl : ClsOk X (h1 :: hs) l) :
    PS X (.Try body (h1 :: hs) [] [] pos) (fun D σ H => tb (wList X.K D l) D σ H) := by
  refine ⟨fun pins s σ H D I hh => ?_⟩
  have good := I.ok
  have frm : X.A.frames = some (X.env :: X.outer) := by rw [good.frames, hst]
  refine wpAny_Try_except ?_
  refine wpAny_mono ((hbody (wList X.K D l) (X.pn ++ pins) (fun e t1 => wpAny (model X.prog X.w) X.A (noteFrame e X.env) (fun _ t2 => wpAny (model X.prog X.w) X.A (setFlight e none) (fun _ t3 =>
    wpAny (model X.prog X.w) X.A (handleBy e X.env (h1 :: hs)) (SP X pins D) X.xe t3) X.xe t2) X.xe t1) (fun u s' air => ?_) PassesOwn.looking).run [] s σ H D (I.toTry _) hh) (fun fl s1 out => ?_) (fun _ _ z => z)
  · obtain ⟨a, B, sI, pins', σ', H', cl, d, rfl, J', nb, up, sky, na, os, ag, wish⟩ := air
    have J : Inv X pins σ' H' sI := J'.ofTry good
    have sky2 : Sky B (X.env :: X.outer) a (L2N.Zn cl d) X.env.locals s'.heap := by rw [← hst]; exact sky
    show wpAny (model X.prog X.w) X.A (noteFrame (.ref a) X.env) _ _ _
    refine L2N.Sky.land L2N.Zn.steady frm hfr sky2 fun g3 f3 u3 => ?_
    have K3 : Inv X pins σ' H' { s' with heap := g3 } := J.landed nb f3.1 (up.trans u3) os ag
    obtain ⟨o3, v3, q3, z3, d3⟩ := f3.there
    have away : a ∉ frs (X.env :: X.outer) := fun hm => by
      obtain ⟨_, o', e', no⟩ := f3.2.2.1.mem hm
      rw [q3] at e'
      cases e'
      exact no _ d3
    have nL : a ≠ X.env.locals := fun z => away (List.mem_filterMap.mpr ⟨X.env, List.mem_cons_self, by rw [hfr, z]⟩)
    have nF : a ∉ X.fs := fun hm => by
      obtain ⟨e, he, q⟩ := List.mem_filterMap.mp hm
      exact away (List.mem_filterMap.mpr ⟨e, List.mem_cons_of_mem _ he, q⟩)
    have S3 := K3.suite q3 d3 na nL nF
    have walk : ∀ {hs' : List ExceptHandler} {l' : List Cl}, ClsOk X hs' l' → wList X.K D l' cl d σ' H' → wpAny (model X.prog X.w) X.A (handleBy (.ref a) X.env hs') (SP X pins D) X.xe { s' with heap := g3 } := by
      intro hs' l' ok'
      induction ok' with
      | none => exact fun z => False.elim z
      | @more x n c i t b bs p p' hs2 l2 hi hk hx hb r ih =>
        intro wish2
        obtain ⟨yes, hex, w1, w0⟩ := wish2
        refine wpAny_handleBy_cons (codeAny_handlers_test ?_) (by intro q; cases q)
        have kind : PySem.W.Looks (model X.prog X.w) g3 (typeOf (.ref a)) cl := fun A Q E s k q => wpAny_typeOf_ref (k _ _ q3) (by rw [z3.1]; exact q)
        have look := PySem.W.exm_one (M := model X.prog X.w) (K3.kIn) kind hex
        have test : ∀ {Q : Value → Shared → Prop} {E : Value → Shared → Prop}, Q c { s' with heap := g3 } → wpAny (model X.prog X.w) (X.A.mark (some (.ref a))) (eval (.Name x p) X.env) Q E { s' with heap := g3 } := fun {Q E} q => by
          obtain ⟨y1, y2, y3 | ⟨y3, y4, y5⟩⟩ := hx
          · exact ld_glob (X := X.suite a ((a, o3) :: (X.pn ++ pins))) S3 y1 y3 q y2
          · exact ld_blt (X := X.suite a ((a, o3) :: (X.pn ++ pins))) S3 y1 y3 y4 q y5 y2
        refine test (look.here ?_)
        cases yes with
        | false =>
          show wpAny _ X.A (handleBy (.ref a) X.env hs2) _ _ _
          exact ih (w0 rfl)
        | true =>
          refine codeAny_handlers_suite_as ?_
          refine HandSPX.lands_againZ f3 fun g4 f4 u4 => ?_
          have K4 : Inv X pins σ' H' { s' with heap := g4 } := J.landed nb f4.1 ((up.trans u3).trans u4) os ag
          obtain ⟨o4, v4, q4, z4, d4⟩ := f4.there
          have S4 := K4.suite q4 d4 na nL nF
          refine store_ok (X := X.suite a ((a, o4) :: (X.pn ++ pins))) (v := .ref a) S4 hnd hi (.inl hk) rfl (fun s5 S5 => ?_) (.inr hk)
          refine wpAny_mono ((hb a o4 cl d (X.pn ++ pins) z4 ⟨_, d4⟩).run [] s5 _ H' _ S5 (w1 rfl a na)) (fun fl s6 out => ?_) (fun _ _ z => False.elim z)
          have shut : ∀ {σ6 : L2.St} {H6 : Hp} {Q : Shared → Prop}, Inv (X.suite a ((a, o4) :: (X.pn ++ pins))) [] σ6 H6 s6 → (∀ s7, Inv X pins (σ6.set i none) H6 s7 → Q s7) →
              wpAny (model X.prog X.w) X.A (do bindName X.env n .none; unbindBehindTheSuite X.env n p') (fun _ s7 => Q s7) X.xe s6 := fun {σ6 H6 Q} S6 q => gone_ok (S6.unsuite good) hnd hi hk q
          cases fl with
          | next =>
            obtain ⟨σ6, H6, S6, q6⟩ := out
            exact shut S6 fun s7 J7 => ⟨_, _, J7, q6⟩
          | brk =>
            obtain ⟨σ6, H6, S6, q6⟩ := out
            exact shut S6 fun s7 J7 => ⟨_, _, J7, q6⟩
          | cont =>
            obtain ⟨σ6, H6, S6, q6⟩ := out
            exact shut S6 fun s7 J7 => ⟨_, _, J7, q6⟩
          | ret u =>
            obtain ⟨v6, σ6, H6, S6, r6, q6⟩ := out
            exact shut S6 fun s7 J7 => ⟨_, _, _, J7, r6, q6⟩
      | @bare x c t b bs p p' hs2 l2 hx hb r ih =>
        intro wish2
        obtain ⟨yes, hex, w1, w0⟩ := wish2
        refine wpAny_handleBy_cons (codeAny_handlers_test ?_) (by intro q; cases q)
        have kind : PySem.W.Looks (model X.prog X.w) g3 (typeOf (.ref a)) cl := fun A Q E s k q => wpAny_typeOf_ref (k _ _ q3) (by rw [z3.1]; exact q)
        have look := PySem.W.exm_one (M := model X.prog X.w) (K3.kIn) kind hex
        have test : ∀ {Q : Value → Shared → Prop} {E : Value → Shared → Prop}, Q c { s' with heap := g3 } → wpAny (model X.prog X.w) (X.A.mark (some (.ref a))) (eval (.Name x p) X.env) Q E { s' with heap := g3 } := fun {Q E} q => by
          obtain ⟨y1, y2, y3 | ⟨y3, y4, y5⟩⟩ := hx
          · exact ld_glob (X := X.suite a ((a, o3) :: (X.pn ++ pins))) S3 y1 y3 q y2
          · exact ld_blt (X := X.suite a ((a, o3) :: (X.pn ++ pins))) S3 y1 y3 y4 q y5 y2
        refine test (look.here ?_)
        cases yes with
        | false =>
          show wpAny _ X.A (handleBy (.ref a) X.env hs2) _ _ _
          exact ih (w0 rfl)
        | true =>
          refine codeAny_handlers_suite ?_
          refine HandSPX.lands_againZ f3 fun g4 f4 u4 => ?_
          have K4 : Inv X pins σ' H' { s' with heap := g4 } := J.landed nb f4.1 ((up.trans u3).trans u4) os ag
          obtain ⟨o4, v4, q4, z4, d4⟩ := f4.there
          have S4 := K4.suite q4 d4 na nL nF
          refine wpAny_mono ((hb a o4 cl d (X.pn ++ pins) z4 ⟨_, d4⟩).run [] _ _ H' _ S4 (w1 rfl a na)) (fun fl s6 out => ?_) (fun _ _ z => False.elim z)
          cases fl with
          | next =>
            obtain ⟨σ6, H6, S6, q6⟩ := out
            exact ⟨_, _, S6.unsuite good, q6⟩
          | brk =>
            obtain ⟨σ6, H6, S6, q6⟩ := out
            exact ⟨_, _, S6.unsuite good, q6⟩
          | cont =>
            obtain ⟨σ6, H6, S6, q6⟩ := out
            exact ⟨_, _, S6.unsuite good, q6⟩
          | ret u =>
            obtain ⟨v6, σ6, H6, S6, r6, q6⟩ := out
            exact ⟨_, _, _, S6.unsuite good, r6, q6⟩
    exact walk hcl wish
  · cases fl with
    | next =>
      obtain ⟨σ', H', J', q⟩ := out
      exact wpAny_execs_nil ⟨σ', H', J'.ofTry good, q⟩
    | brk =>
      obtain ⟨σ', H', J', q⟩ := out
      exact ⟨σ', H', J'.ofTry good, q⟩
    | cont =>
      obtain ⟨σ', H', J', q⟩ := out
      exact ⟨σ', H', J'.ofTry good, q⟩
    | ret u =>
      obtain ⟨v, σ', H', J', r, q⟩ := out
      exact ⟨v, σ', H', J'.ofTry good, r, q⟩
end
end WB
namespace WB
open PySem PySem.Spec PyProof.Rows L2
section
variable {P : Program} {w : World} {K : PySem.W.Frag} {mg : Str → Option Value} {base : Heap} {k : Nat} {f : Addr} {fd : FuncData} {ps : List Str} {sp sp2 : Sp}
theorem FnOk_lift (F : FnOk P w K mg base CX0 k f fd ps sp) : FnOk P w K mg base (L2N.CX P w) k f fd ps sp := by
  refine ⟨F.len, fun A outer s H args us vs Q E hr e0 hb r h => codeAny_mono (F.run A outer s H args us vs Q E hr e0 hb r h) fun r s' hq => ?_⟩
  cases r with
  | error e => exact (show False from hq).elim
  | ok fl =>
    cases fl with
    | ret u => exact hq
    | next => exact False.elim hq
    | brk => exact False.elim hq
    | cont => exact False.elim hq
theorem FnOk_or {CX : CXT} {j : Nat} (F : FnOk P w K mg base CX k f fd ps sp) (G : FnOk P w K mg base CX j f fd ps sp2) (hj : j ≤ k) : FnOk P w K mg base CX k f fd ps (fun vs H Q E => sp vs H Q E ∨ sp2 vs H Q E) := by
  refine ⟨fun vs H Q E h => h.elim (F.len _ _ _ _) (G.len _ _ _ _), fun A outer s H args us vs Q E hr e0 hb r h => ?_⟩
  rcases h with h | h
  · exact F.run A outer s H args us vs Q E hr e0 hb r h
  · exact G.run A outer s H args us vs Q E (hr.mono hj) e0 hb r h
end
def oexB (x : Str) : PySem.W.Frag → Bool := fun K => (match K.lookup (He.ga K x) with
  | some ⟨.type "type", _, .cls cd, sl⟩ => (match cd.mro, sl.toList with
    | .ref C' :: bm, [_, _, _, _, some (.builtin n), _] => C' == He.ga K x && n == "ValueError.__new__" && !cd.hasDel && cd.hasDict && PySem.HandSPX.refsVE bm
    | _, _ => false)
  | _ => false) && (He.eqO (PySem.W.findIn K (.ref (He.ga K x)) "__setattr__") (some (some (.builtin "object.__setattr__"))) && (decide (PySem.W.subIn K (.ref (He.ga K x)) (.type "BaseException") = some true) && (decide (PySem.W.typeIn K (.ref (He.ga K x)) = some (.type "type")) && PySem.W.keepIn K (.ref (He.ga K x)))))
theorem oexB_ok {K : PySem.W.Frag} {x : Str} (h : oexB x K = true) : OexC K (He.ga K x) := by
  obtain ⟨q, h⟩ := He.ba h
  obtain ⟨h1, h⟩ := He.ba h
  obtain ⟨h2, h⟩ := He.ba h
  obtain ⟨h3, h4⟩ := He.ba h
  refine ⟨?_, He.eqO_ok h1, of_decide_eq_true h2, of_decide_eq_true h3, h4⟩
  split at q
  · rename_i dd cd sl ho
    split at q
    · rename_i C' bm k0 k1 k2 k3 n k5 hm hs
      simp only [Bool.and_eq_true, beq_iff_eq, Bool.not_eq_true'] at q
      obtain ⟨⟨⟨⟨e1, e2⟩, hdel⟩, hdc⟩, ht⟩ := q
      obtain ⟨nm, bs, mro, ns, qn, hd, sn, sub, ab, col, del⟩ := cd
      dsimp only at hm hdel hdc
      subst hm hdel hdc e2
      have hsl : sl = #[k0, k1, k2, k3, some (.builtin "ValueError.__new__"), k5] := by
        obtain ⟨l⟩ := sl
        simp only at hs
        rw [hs]
      subst hsl
      rw [e1] at ho
      exact ⟨_, _, _, _, _, _, _, _, _, _, _, _, _, _, _, ho, ht⟩
    · cases q
  · cases q
section
variable {X : Cx} {e : Expr} {es : List Expr} {ta : TA} {p pos : Pos}
theorem pmk_oexN {CX : CXT} {x : Str} {C fI : Addr} {k : Nat} {fd : FuncData} {ps : List Str} {sp : Sp} (T : OexC X.K C) (iC : PySem.W.findIn X.K (.ref C) "__init__" = some (some (.ref fI))) (tI : PySem.W.typeIn X.K (.ref fI) = some (.type "function"))
    (F1 : FnOk X.prog X.w X.K X.mg X.base CX k fI fd ps sp) (hr : Room (k + 1) X.A) (hb : Binds X.K fd ps []) (hx : Passes CX X (fun _ _ _ => False)) (hg : Gl X x) (hm : X.mg x = some (.ref C)) (ha : PA X (e :: es) ta)
    (hdb : (x == ("__debug__" : Str)) = false := by decide) (he : starEach (e :: es) X.env = (false, eval e X.env) :: starEach es X.env := by rfl) (hpl : (backTo pos (starEach es X.env)).any (·.1) = false := by rfl) :
    L2N.PMk X (.Call (.Name x p) (e :: es) [] pos) (tMkO C sp [] ta) := by
  intro pins s σ H Q I h
  obtain ⟨nm, q, N, bs, bm, sn, sub, ab, col, dd, k0, k1, k2, k3, k5, hC, hbm⟩ := T.cls
  refine wpAny_Call_Name_kw (ld_glob I hg hm ?_ hdb)
  refine PySem.W.callWith_K (h₀ := X.base) I.ok.mod.kin T.kC (thn (ha.run pos pins s σ H _ I h) fun us s1 ⟨vs, H1, I1, r1, hz, q1⟩ => ⟨I1.kIn, ?_⟩) he hpl
  show wpAny _ _ (call (.ref C) us) _ _ _
  obtain ⟨hp, g, dr, tk, os⟩ := s1
  have big : hp.objs.size ≤ hp.objs.size + 1 := Nat.le_succ _
  have start := q1 (hp.objs.size + 1) (I1.hok.fresh big)
  rw [List.append_nil] at start
  have kk : ∀ b o, hp.get? b = some o → ((hp.push (PySem.W.kdv_tup us)).push (PySem.HandSPX.excO C hp.objs.size)).get? b = some o := fun b o e => Heap.get?_push_of_some _ (Heap.get?_push_of_some _ e)
  have hget : ((hp.push (PySem.W.kdv_tup us)).push (PySem.HandSPX.excO C hp.objs.size)).get? (hp.objs.size + 1) = some (PySem.HandSPX.excO C hp.objs.size) := by heap_get
  have I2 := I1.laid (t' := tk) (a := hp.objs.size + 1) (o := exo (hp.objs.size + 1) C none) (h' := (hp.push (PySem.W.kdv_tup us)).push (PySem.HandSPX.excO C hp.objs.size)) kk big (exo_ok hget)
  have r2 : Vals (V.ref (hp.objs.size + 1) :: vs) (Value.ref (hp.objs.size + 1) :: us) := .cons rfl r1
  have hl : (Value.ref (hp.objs.size + 1) :: us ++ []).length = ps.length := by
    have e := r2.length
    rw [F1.len _ _ _ _ start] at e
    rw [List.append_nil]
    exact e.symm
  have hus : us.length ≤ sizeLine := by
    rw [← Paired.length r1, sizeLine_eq]
    omega
  have hbb := hb _ (Value.ref (hp.objs.size + 1) :: us) I2.kIn hl
  rw [List.append_nil] at hbb
  refine wpAny_call (PySem.HandSPX.call_own F.excBase_ValueError (fun Y => PySem.HandSPX.refsVE_contains Y bm hbm) (I1.kIn _ _ hC) (PySem.W.looks_findIn I1.kIn iC) (fun self => PySem.W.bind_fn I1.kIn self tI) hus
    (codeAny_mono (F1.run _ X.stack _ _ ⟨Value.ref (hp.objs.size + 1) :: us, []⟩ (Value.ref (hp.objs.size + 1) :: us) _ _ (fun _ _ _ => False) (hr.make C us []) (I2.env0.make C us []) hbb r2 start) fun r s' hq' => ?_))
  cases r with
  | error er => exact hx pins σ _ _ er s' I2 hq'
  | ok fl =>
    cases fl with
    | ret u =>
      obtain ⟨v, H2, os2, bare2, un2, hok2, rv, ev, d, fs, ea, ed, hd1, q2⟩ := hq'
      subst ev
      obtain ⟨h2, g2, d2, t2, os'⟩ := s'
      obtain ⟨t0, G, J, kG, ge, hoe, na⟩ := mk_end0 (d2 := d2) (t2 := t2) I1 big kk un2 hok2 os2 bare2 ea ed hd1
      exact ⟨rv, _, _, _, ⟨G, g2, d2, t2, os'⟩, _, .ref C, some d, rfl, J, kG, ge, hoe, ⟨rfl, rfl, fun vs e => by cases e; rfl⟩, rfl, rfl, na, rfl, bare2, raises_own T.exC T.tyC, q2⟩
    | next => exact False.elim hq'
    | brk => exact False.elim hq'
    | cont => exact False.elim hq'
end
def sp_exc (K : PySem.W.Frag) (C : Addr) (f : Str) : Sp := fun vs H Q _ => ∃ (a : Addr) (v : V), vs = [.ref a, v] ∧ OexC K C ∧ PySem.W.findIn K (.ref C) f = some none ∧ H a = some (exo a C none) ∧
  ∀ dx, H dx = none → dx ≠ a → Q .non (upd (upd H dx (exd dx [(f, v)])) a (exo a C (some dx)))
def t_exc (K : PySem.W.Frag) (f : Str) : TS := tOst K f (tVar 0) (tVar 1)
theorem pure_exc {K : PySem.W.Frag} {C : Addr} {f : Str} {vs : List V} {H : Hp} {Q : VK} {E : XK} {N : List Str} (hN : N.length = 2) (h : sp_exc K C f vs H Q E) : t_exc K f { nx := fun _ H' => Q .non H', rt := Q } (start N vs) H := by
  obtain ⟨a, v, rfl, T, hno, ha, k⟩ := h
  obtain ⟨x, y, rfl⟩ : ∃ x y, N = [x, y] := by
    match N, hN with
    | [x, y], _ => exact ⟨x, y, rfl⟩
  exact ⟨v, rfl, .ref a, rfl, a, C, rfl, T, hno, .inl ⟨ha, fun dx h1 h2 => k dx h1 h2⟩⟩
def tRs (K : PySem.W.Frag) (C : Addr) (f : Str) (E : XK) (ta : TA) : TS := fun _ σ H => tMkO C (sp_exc K C f) [] ta σ H E
theorem upd_del {H : Hp} {a d : Addr} {o p q : HO} {y : HO} (ha : H a = none) (hd : d ≠ a) : upd (del (upd (upd (upd H a o) d p) a q) a) d y = upd H d y := by
  funext b
  by_cases hb : b = d
  · subst hb
    rw [upd_same, upd_same]
  · rw [upd_ne hb, upd_ne hb]
    by_cases hc : b = a
    · subst hc
      rw [del_same, ha]
    · rw [del_ne hc, upd_ne hc, upd_ne hb, upd_ne hc]
structure ExcK (K : PySem.W.Frag) (C fI : Addr) (f : Str) : Prop where
  ox : OexC K C
  no : PySem.W.findIn K (.ref C) f = some none
  ini : PySem.W.findIn K (.ref C) "__init__" = some (some (.ref fI))
  fn : PySem.W.typeIn K (.ref fI) = some (.type "function")
  xf : XfC K C
def excKB (x f : Str) : PySem.W.Frag → Bool := fun K => oexB x K && (He.eqO (PySem.W.findIn K (.ref (He.ga K x)) f) (some none) && (He.eqO (PySem.W.findIn K (.ref (He.ga K x)) "__init__") (some (some (.ref (He.ma K (He.ga K x) "__init__")))) &&
  (decide (PySem.W.typeIn K (.ref (He.ma K (He.ga K x) "__init__")) = some (.type "function")) && xfB K (He.ga K x))))
theorem excKB_ok {K : PySem.W.Frag} {x f : Str} (h : excKB x f K = true) : ExcK K (He.ga K x) (He.ma K (He.ga K x) "__init__") f := by
  obtain ⟨h1, h⟩ := He.ba h
  obtain ⟨h2, h⟩ := He.ba h
  obtain ⟨h3, h⟩ := He.ba h
  obtain ⟨h4, h5⟩ := He.ba h
  exact ⟨oexB_ok h1, He.eqO_ok h2, He.eqO_ok h3, of_decide_eq_true h4, xfB_ok h5⟩
section
variable {X : Cx} {e : Expr} {ta : TA} {p pos pos' : Pos}
theorem ps_rs {x f : Str} {C fI : Addr} {k : Nat} {fd : FuncData} {ps : List Str} {E : XK} (hc : X.calm = true) (T : ExcK X.K C fI f) (F1 : FnOk X.prog X.w X.K X.mg X.base CX0 k fI fd ps (sp_exc X.K C f)) (hr : Room (k + 1) X.A) (hb : Binds X.K fd ps [])
    (tk : L2N.Takes X fun cls d _ H => E cls d H) (hg : Gl X x) (hm : X.mg x = some (.ref C)) (ha : PA X [e] ta) (hdb : (x == ("__debug__" : Str)) = false := by decide) (he : starEach [e] X.env = (false, eval e X.env) :: starEach [] X.env := by rfl) :
    PS X (.Raise (some (.Call (.Name x p) [e] [] pos)) none pos') (tRs X.K C f E ta) :=
  L2N.ps_raise (pos := pos') hc tk (pmk_oexN (x := x) (p := p) (pos := pos) T.ox T.ini T.fn F1 hr hb pass0 hg hm ha hdb he (by rfl))
end
theorem rs_of {K : PySem.W.Frag} {C fI : Addr} {f : Str} {E : XK} {H : Hp} {v : V} (T : ExcK K C fI f) (h : ∀ d, H d = none → E (.ref C) (some d) (upd H d (.xd [(f, v)]))) :
    [v].length ≤ 1000 ∧ ∀ a, H a = none → sp_exc K C f (.ref a :: ([v] ++ [])) (upd H a (exo a C none))
      (fun z H2 => z = .non ∧ ∃ (d : Addr) (fs : List (Str × V)), H2 a = some (exo a C (some d)) ∧ H2 d = some (exd d fs) ∧ H d = none ∧ E (.ref C) (some d) (upd (del H2 a) d (.xd fs))) (fun _ _ _ => False) := by
  refine ⟨by simp, fun a hn => ⟨a, v, rfl, T.ox, T.no, upd_same, fun dx h2 h3 => ?_⟩⟩
  have hdx : H dx = none := by
    rw [upd_ne h3] at h2
    exact h2
  refine ⟨rfl, dx, [(f, v)], upd_same, by rw [upd_ne h3, upd_same], hdx, ?_⟩
  rw [upd_del hn h3]
  exact h dx hdx
section
open HotX
variable {prog : Program} {w : World} {A : Around} {E : Value → Shared → Prop} {s : Shared}
theorem next_tuple_endH {it t x1 : Addr} {i : Nat} {items : Array Value} {Q : Option Value → Shared → Prop} (hot : HotAt A x1 s.heap) (hne : x1 ≠ it) (hit : IsTupIter s.heap it t i) (ht : IsTup s.heap t items) (hx : items[i]? = none)
    (hQ : ∀ h', Heap.ExtBut it s.heap h' → Q none { s with heap := h' }) : wpAny (model prog w) A (pyNext (.ref it)) Q E s := by
  obtain ⟨o, ho, hc, hd⟩ := id hit
  obtain ⟨ol, hol, _, nl, hdl⟩ := ht
  obtain ⟨hh, o1, vs1, h1, d1, c1⟩ := hot
  unfold pyNext
  refine wpAny_bind (wpAny_attempt (wpAny_callSpecial?_slot (name := Str.ofString "__next__") hit.typeIs slot_tupleiter_next
    (wpAny_call_entry slot_tupleiter_next hit.typeIs entry_tupleiter_next ?_ (args_tupleiter_next _))))
  show wpAny _ _ (field (.ref it) 0 >>= _) _ _ s
  refine wpAny_bind (wpAny_field ho hd (x := .ref t) rfl ?_)
  show wpAny _ _ (if (Value.ref t == Value.none) = true then _ else _) _ _ s
  rw [if_neg (show ¬ ((Value.ref t == Value.none) = true) from Bool.false_ne_true)]
  show wpAny _ _ (field (.ref it) 1 >>= _) _ _ s
  refine wpAny_bind (wpAny_field ho hd (x := .int i 0) rfl ?_)
  show wpAny _ _ (seqItems? (.ref t) >>= _) _ _ s
  refine wpAny_bind (wpAny_seqItems hol hdl ?_)
  simp only [Int.toNat_natCast, hx]
  refine wpAny_bind (wpAny_rule (wpAny_bind (wpAny_setField ho hd (by simp) ?_)))
  show wpAny _ _ (newExc (.type "StopIteration") [] >>= _) _ _ _
  refine wpAny_bind ?_
  simp only [newExc, newTuple]
  refine wpAny_bind (wpAny_newObj_type ?_ (by size_fits))
  refine wpAny_bind (m := firstArgMember _ _) (wpAny_of_eq (a := Value.none) (by first | rfl | (simp only [firstArgMember]; rfl)) ?_)
  refine wpAny_newObj_type ?_ (by size_fits)
  have g1 := (Heap.get?_update_other s.heap (Obj.mapFields (·.setIfInBounds 0 Value.none)) (Ne.symm hne)).trans h1
  refine raiseNew_hot ⟨hh, o1, vs1, Heap.get?_push_of_some _ (Heap.get?_push_of_some _ g1), d1, c1⟩ (Nat.ne_of_lt (Heap.lt_size (Heap.get?_push_of_some _ g1))) (Heap.get?_push_size _ rfl) rfl (by first | (simp; done) | (simp; omega) | (simp only [Array.size_append]; simp; omega)) ?_
  refine wpAny_bind (wpAny_isInstance (T := "StopIteration") (b := true) ⟨_, Heap.get?_update_self _ (Heap.get?_push_size _ rfl) rfl, rfl⟩ isSubtype_stop ?_)
  refine wpAny_pure (hQ _ fun b o hb e => ?_)
  have e1 := (Heap.get?_update_other s.heap (Obj.mapFields (·.setIfInBounds 0 Value.none)) (Ne.symm hb)).trans e
  rw [Heap.get?_update_other _ _ (Nat.ne_of_gt (Heap.lt_size (Heap.get?_push_of_some _ e1)))]
  exact Heap.get?_push_of_some _ (Heap.get?_push_of_some _ e1)
theorem unpackItems_tupleH {t x1 : Addr} {items : Array Value} {Q : List Value → Shared → Prop} (hot : HotAt A x1 s.heap) (ht : IsTup s.heap t items)
    (hQ : ∀ h', Heap.ExtBut s.heap.objs.size s.heap h' → Q items.toList { s with heap := h' }) : wpAny (model prog w) A (unpackItems (.ref t) items.size none) Q E s := by
  have hlt : t ≠ s.heap.objs.size := by obtain ⟨o, ho, _⟩ := ht; exact Nat.ne_of_lt (Heap.lt_size ho)
  obtain ⟨hh, o1, vs1, h1, d1, c1⟩ := hot
  have hx1 : x1 ≠ s.heap.objs.size := Nat.ne_of_lt (Heap.lt_size h1)
  unfold unpackItems
  refine wpAny_bind ?_
  unfold notIterableAtAll
  refine wpAny_bind (wpAny_specialOf ht.typeIs slot_tuple_iter.lookup ?_)
  refine wpAny_pure ?_
  simp only [Bool.false_eq_true, if_false]
  refine wpAny_bind (wpAny_holding (iter_tuple ht ?_))
  refine wpAny_bind (wpAny_holding (draw_tuple hlt items.size 0 _ _ ⟨_, Heap.get?_push_size _ rfl, rfl, rfl⟩ (ht.push _) (by omega) fun h₁ hit₁ hs₁ => ?_))
  have hall : List.take items.size (List.drop 0 items.toList) = items.toList := by
    rw [List.drop_zero]; exact List.take_of_length_le (by simp)
  rw [hall]
  rw [if_neg (by simp)]
  have ht₁ : IsTup h₁ t items := (ht.push _).extBut hs₁.extBut hlt
  have g1 : h₁.get? x1 = some o1 := hs₁.extBut x1 o1 hx1 (Heap.get?_push_of_some _ h1)
  refine wpAny_bind (wpAny_holding (next_tuple_endH ⟨hh, o1, vs1, g1, d1, c1⟩ hx1 hit₁ ht₁ (by simp) fun h₂ he₂ => ?_))
  simp only [Option.isSome_none, Bool.false_eq_true, if_false]
  exact wpAny_pure (hQ h₂ fun b o hb e => he₂ b o hb (hs₁.extBut b o hb (Heap.get?_push_of_some _ e)))
end
section
variable {X : Cx}
theorem hot_suite {a : Addr} {oe : Obj} {pn pins : List (Addr × Obj)} {cls : Value} {d : Option Addr} {σ : L2.St} {H : Hp} {s : Shared} (hz : L2N.Zn cls d oe) (hf : ∃ vs, oe.data = .fields vs) (I : Inv (X.suite a ((a, oe) :: pn)) pins σ H s) :
    HotX.HotAt (X.suite a ((a, oe) :: pn)).A a s.heap := by
  obtain ⟨vs, hd⟩ := hf
  exact ⟨rfl, oe, vs, (I.pin (a, oe) (List.mem_append_left _ List.mem_cons_self)).1, hd, hz.2.2 vs hd⟩
theorem ps_parH {i j : Nat} {x y : Str} {a b : Expr} {ta : TA} {px py pt pos : Pos} {kt k2 pt2} (hot : ∀ pins σ H s, Inv X pins σ H s → ∃ x1, HotX.HotAt X.A x1 s.heap) (hN : X.N.Nodup) (hi : X.N[i]? = some x) (hj : X.N[j]? = some y) (hij : i ≠ j)
    (hx : X.env.scope.names.lookup x = some .local) (hy : X.env.scope.names.lookup y = some .local) (ha : PA X [a, b] ta)
    (hw : swappedStores [.Tuple [.Name x px, .Name y py] kt pt] (.Tuple [a, b] k2 pt2) X.env = pure (some [x, y]))
    (hs : swapsWithSole [.Tuple [.Name x px, .Name y py] kt pt] (.Tuple [a, b] k2 pt2) pos.line X.env = pure false := by rfl) :
    PS X (.Assign [.Tuple [.Name x px, .Name y py] kt pt] (.Tuple [a, b] k2 pt2) pos) (tPar i j ta) := by
  refine ⟨fun pins s σ H D I h => ?_⟩
  rw [exec_Assign_arm]
  refine wpAny_bind (wpAny_standAt ?_)
  rw [hs]
  refine wpAny_bind (wpAny_pure ?_)
  rw [if_neg (by decide)]
  refine wpAny_bind (Tuple_ (thn (ha.run _ pins s σ H _ I h) fun us s1 ⟨vs, H1, I1, r1, q1⟩ => ?_))
  obtain ⟨v, w, e1, q1⟩ := q1
  subst e1
  obtain ⟨u1, u2, rfl, rv, rw'⟩ : ∃ u1 u2, us = [u1, u2] ∧ RelV v u1 ∧ RelV w u2 := by
    cases r1 with
    | cons p q =>
      cases q with
      | cons p' q' =>
        cases q'
        exact ⟨_, _, rfl, p, p'⟩
  refine wpAny_newObj_type ?_ (by show 2 ≤ sizeLine; decide)
  have I2 : Inv X pins σ H1 { s1 with heap := s1.heap.push { cls := .type "tuple", data := .seq [u1, u2].toArray } } := I1.kept (t' := s1.toks) fun b o e => Heap.get?_push_of_some _ e
  rw [hw]
  refine wpAny_bind (wpAny_pure ?_)
  show wpAny (model X.prog X.w) X.A (do rule "assign.swapped-stores"; let items ← unpackItems (.ref s1.heap.objs.size) 2 none; assignInOrder [fun v => bindName X.env y v, fun v => bindName X.env x v] items.reverse; pure Flow.next) _ _ _
  obtain ⟨x1, hx1⟩ := hot _ _ _ _ I2
  refine wpAny_bind (wpAny_rule (wpAny_bind (unpackItems_tupleH (items := #[u1, u2]) hx1 (IsTup.new s1.heap _) fun h' hx' => ?_)))
  have I3 := I2.kept (h' := h') (t' := s1.toks) fun b o e => hx' b o (Nat.ne_of_lt (Heap.lt_size e)) e
  show wpAny _ _ (assignInOrder [fun v => bindName X.env y v, fun v => bindName X.env x v] [u2, u1] >>= fun _ => pure Flow.next) _ _ _
  refine wpAny_bind (assignInOrder_cons (wpAny_bindName (store_ok I3 hN hj (.inl hy) rw' (fun s2 I4 => ?_) (.inr hy))))
  refine assignInOrder_cons (wpAny_bindName (store_ok I4 hN hi (.inl hx) rv (fun s3 I5 => assignInOrder_nil (wpAny_pure ?_)) (.inr hx)))
  rw [List.set_comm _ _ (Ne.symm hij)] at I5
  exact ⟨_, H1, I5, q1⟩
end
end WB
namespace WB
open PySem PySem.Spec PyProof.Rows L2 LamX
def lamN (X : Cx) (A : Around) (outer : List Env) (s : Shared) (H : Hp) (E : XK) (scope : Scope) (f c' : Addr) : Cx :=
  { lamCx X A outer s H E scope f c' with xe := fun e s' => wpAny (model X.prog X.w) (A.deeper (lamEnv X scope s.heap.objs.size f c')) (leaving (lamEnv X scope s.heap.objs.size f c') e) (fun _ s'' => L2N.CX X.prog X.w outer H s E e s'') (fun e' s'' => L2N.CX X.prog X.w outer H s E e' s'') s' }
theorem lam_takes {X : Cx} {A : Around} {outer : List Env} {s : Shared} {H : Hp} {E : XK} {scope : Scope} {f c' : Addr} : L2N.Takes (lamN X A outer s H E scope f c') fun cls d _ H => E cls d H := L2N.takes_of rfl rfl rfl rfl
theorem lam_passes {X : Cx} {A : Around} {outer : List Env} {s : Shared} {H : Hp} {E : XK} {scope : Scope} {f c' : Addr} : Passes (L2N.CX (lamN X A outer s H E scope f c').prog (lamN X A outer s H E scope f c').w) (lamN X A outer s H E scope f c') E := L2N.passes_call lam_takes fun _ _ _ _ h => h
def upT (tl : XK → Hp → VK → Prop) (E : XK) (H : Hp) (Q : VK) : Prop := ∃ (E1 : XK) (Q1 : VK), (∀ c d H', E1 c d H' → E c d H') ∧ (∀ v H', Q1 v H' → Q v H') ∧ tl E1 H Q1
def tAct (f c' : Addr) (q : Str) (tl : XK → Hp → VK → Prop) (W : WX) : TE := fun σ H Q => σ[0]? = some (some (.ref f)) ∧ H c' = some (CodeO c' q) ∧ upT tl (WE W σ) H Q
theorem CR_wide {P : Program} {w : World} {outer : List Env} {H : Hp} {s s' : Shared} {Q Q1 : VK} {E E1 : XK} {r : Result} (hE : ∀ c d H', E1 c d H' → E c d H') (hQ : ∀ v H', Q1 v H' → Q v H') (h : CR (L2N.CX P w) outer P w H s Q1 E1 r s') : CR (L2N.CX P w) outer P w H s Q E r s' := by
  cases r with
  | error e =>
    obtain ⟨a, B, H', cls, d, h1, h2, h3, h4, h5, h6, h7, h8⟩ := h
    exact ⟨a, B, H', cls, d, h1, h2, h3, h4, h5, h6, h7, hE _ _ _ h8⟩
  | ok fl =>
    cases fl with
    | ret u =>
      obtain ⟨v, H', h1, h2, h3, h4, h5, h6⟩ := h
      exact ⟨v, H', h1, h2, h3, h4, h5, hQ _ _ h6⟩
    | next => exact False.elim h
    | brk => exact False.elim h
    | cont => exact False.elim h
section
variable {X : Cx} {pins : List (Addr × Obj)} {σ : L2.St} {H HZ : Hp} {s s1 : Shared}
theorem pe_actN {CXg : CXT} {Eg : XK} {Ng : List Str} {qg : Str} {sg : Scope} {g f c' : Addr} {cdg pm ctv : Value} {params : Arguments} {body : Expr} {scope : Scope} {k : Nat} {a : Str} {pn : List (Addr × Obj)} {xe : Value → Shared → Prop} {W : WX} {tb : XK → TE} {p1 p2 : Pos}
    (I : Inv X pins σ H s) (L : LamS X.env.scope scope) (hf : s.heap.get? f = some (PySem.W.kla_obj "<lambda>" (X.env.qual ++ "<lambda>") params body scope (cloFrom X.env.cells scope.names []) pm c' ctv)) (hfn : H f = none) (hfr : f ∉ frs X.stack)
    (hbind : bindArgs (PySem.W.kla_fn "<lambda>" (X.env.qual ++ "<lambda>") params body scope (cloFrom X.env.cells scope.names []) pm (.ref c') ctv) ⟨[], []⟩ = pure [])
    (tk : L2N.Takes ((cxOf CXg X.prog X.w X.K X.mg X.base Ng qg sg g cdg X.A X.stack s H Eg).tr pn xe) W) (hr : Room (k + 1) (X.A.deeper (envOfC qg sg s.heap.objs.size g cdg)))
    (hbody : ∀ (A : Around) (outer : List Env) (s : Shared) (H : Hp) (E : XK), Room k (A.deeper (lamEnv X scope s.heap.objs.size f c')) → PE (lamN X A outer s H E scope f c') body (tb E))
    (hN : Ng[0]? = some a) (hv : Vis sg a) (hd : (a == ("__debug__" : Str)) = false := by decide) (hcd : (a == ("__classdict__" : Str)) = false := by decide) :
    PE ((cxOf CXg X.prog X.w X.K X.mg X.base Ng qg sg g cdg X.A X.stack s H Eg).tr pn xe) (.Call (.Name a p1) [] [] p2)
      (tAct f c' (X.env.qual ++ "<lambda>") (fun E H' Q' => tb E σ H' Q') W) := by
  refine ⟨fun pinsZ sZ σZ HZ Q IZ h => ?_⟩
  obtain ⟨hs, hc, E, Q1, wE, wQ, ht⟩ := h
  refine wpAny_Call_Name_kw (thn ((pe_var (pos := p1) (i := 0) hN hv hd hcd).run pinsZ sZ σZ HZ (fun v H1 => v = .ref f ∧ H1 = HZ) IZ ⟨.ref f, hs, rfl, rfl⟩) fun u s1 ⟨v, H1, I1, r1, q1⟩ => ?_)
  obtain ⟨ev, eH⟩ := q1
  subst ev
  rw [eH] at I1
  obtain rfl : u = Value.ref f := r1
  have of1 := I1.base.keep f _ hf hfn hfr (fun z => nomatch (show f ∈ ([] : List Addr) from z))
  refine PySem.W.callWith_F0 ⟨_, _, _, _, of1⟩ ?_
  have un : Un (frs X.stack) [] H HZ s.heap s1.heap := I1.base
  obtain ⟨⟨oc, vs, t, hoc, hdc, hvc⟩, _, _⟩ := I1.hok c' _ hc
  have rc : codeAny (model X.prog X.w) (X.A.deeper (envOfC qg sg s.heap.objs.size g cdg)) (.call (.ref f) ⟨[], []⟩) (CR (L2N.CX X.prog X.w) (envOfC qg sg s.heap.objs.size g cdg :: X.stack) X.prog X.w HZ s1 Q1 E) s1 := by
    refine PySem.W.kla_callFunE hr.depth of1 rfl L.co L.gen rfl ⟨c', oc, vs, t, rfl, hoc, hdc, hvc⟩ ?_
    rw [hbind]
    refine wpAny_pure (wpAny_newFunctionEnv (fun y hy => (L.own y hy).2) (fun y hy => absurd hy (by simp)) (fun h₁ hns hsb => ⟨I1.nolimit.fresh _ hsb, ?_⟩) L.kind)
    show codeAny _ _ (.expr body (lamEnv X scope s1.heap.objs.size f c')) _ _
    have kp : ∀ b o, s1.heap.get? b = some o → h₁.get? b = some o := fun b o e => hsb.extBut b o (Nat.ne_of_lt (Heap.lt_size e)) (Heap.get?_push_of_some _ e)
    have J0 : Inv (lamCx X (X.A.deeper (envOfC qg sg s.heap.objs.size g cdg)) (envOfC qg sg s.heap.objs.size g cdg :: X.stack) s1 HZ E scope f c') [] σ HZ { s1 with heap := h₁, toks := s1.toks + ([] : List (Str × Value)).length } :=
      lam_start2 I L I1.env0 hr.hd un hns kp
    have J : Inv (lamN X (X.A.deeper (envOfC qg sg s.heap.objs.size g cdg)) (envOfC qg sg s.heap.objs.size g cdg :: X.stack) s1 HZ E scope f c') [] σ HZ { s1 with heap := h₁, toks := s1.toks + ([] : List (Str × Value)).length } := by
      have ok := J0.ok
      exact ⟨⟨ok.mod, ok.kind, ok.glob, ok.blt, ok.above, ok.inj, ok.has, ok.cab, ok.hd, ok.frames, ok.stk, ok.exf, ok.bs, ok.bsz, ok.noex, ok.exfs, ok.funs, ok.frf⟩, J0.os, J0.bare, J0.base, J0.loc, J0.cell, J0.free, J0.freeC, J0.pin, J0.hok, J0.len⟩
    refine PySem.W.kla_codeExpr (wpAny_mono ((hbody _ _ s1 HZ E (hr.deeper _)).run [] _ _ HZ Q1 J ht) (fun v s' hq => ?_) fun e s' hq => hq)
    obtain ⟨w', H', J', rv, q⟩ := hq
    exact ⟨w', H', J'.os, J'.bare, J'.base, J'.hok, rv, q⟩
  refine wpAny_call (codeAny_mono rc fun r s' hq1 => ?_)
  have hq := CR_wide wE wQ hq1
  cases r with
  | error e => exact L2N.passAt tk σZ pinsZ HZ s1 e s' I1 hq
  | ok fl =>
    cases fl with
    | ret u => exact I1.after hq
    | next => exact False.elim hq
    | brk => exact False.elim hq
    | cont => exact False.elim hq
end
def GivesN (X : Cx) (k : Nat) (Ng : List Str) (x : Str) (sg : Scope) (g : Addr) (cdg : Value) (bg : List Stmt) (a : Str) (TT : (XK → Hp → VK → Prop) → Hp → VK → Prop) : Prop :=
  ∀ (q : Str) (f c' : Addr) (s : Shared) (H : Hp) (Q : VK) (tl : XK → Hp → VK → Prop), Room (k + 1) (X.A.deeper (envOfC x sg s.heap.objs.size g cdg)) →
    (∀ (W : WX) (pn : List (Addr × Obj)) (xe : Value → Shared → Prop) (p1 p2 : Pos), L2N.Takes ((cxOf CX0 X.prog X.w X.K X.mg X.base Ng x sg g cdg X.A X.stack s H E0).tr pn xe) W →
      PE ((cxOf CX0 X.prog X.w X.K X.mg X.base Ng x sg g cdg X.A X.stack s H E0).tr pn xe) (.Call (.Name a p1) [] [] p2) (tAct f c' q tl W)) →
    H c' = some (CodeO c' q) → TT tl H Q →
    ∃ t, PSs (cxOf CX0 X.prog X.w X.K X.mg X.base Ng x sg g cdg X.A X.stack s H E0).nox bg t ∧ t { nx := fun _ H' => Q .non H', rt := Q } (L2.start Ng [.ref f]) H
section
variable {X : Cx}
theorem pe_lamN {T : List (Addr × Str)} {TT : (XK → Hp → VK → Prop) → Hp → VK → Prop} {x a : Str} {g c P : Addr} {k : Nat} {pg : Arguments} {bg : List Stmt} {sg : Scope} {dvs kws} {fd : FuncData} {Ng : List Str}
    {params : Arguments} {body : Expr} {scope : Scope} {t : XK → TE} {p lpos pos : Pos} (hg : Gl X x) (hm : X.mg x = some (.ref g)) (Fg : FunD X.K x x pg bg sg dvs kws g fd) (hb : L2.Binds X.K fd [a] []) (Sg : FnScope Ng [a] sg) (hNg : Ng[0]? = some a) (hva : Vis sg a)
    (hG : ∀ cdv, GivesN X k Ng x sg g cdv bg a TT)
    (TB : TabB X.base X.mg c P) (hcode : X.env.code = .ref c) (hmT : (P, X.env.qual ++ "<lambda>") ∈ T) (hu : ∀ p ∈ T, p.1 = P → p.2 = X.env.qual ++ "<lambda>") (hr : Room (k + 2) X.A) (L : LamS X.env.scope scope) (hdef : defaultsOf params X.env = ([], []))
    (hbind : ∀ (q : Str) (cl : List (Str × Addr)) (pm cv ctv : Value), bindArgs (PySem.W.kla_fn "<lambda>" q params body scope cl pm cv ctv) ⟨[], []⟩ = pure [])
    (hbody : ∀ (A : Around) (outer : List Env) (s : Shared) (H : Hp) (E : XK) (f c' : Addr), Room k (A.deeper (lamEnv X scope s.heap.objs.size f c')) → PE (lamN X A outer s H E scope f c') body (t E))
    (hdb : (x == ("__debug__" : Str)) = false := by decide) (hd : (a == ("__debug__" : Str)) = false := by decide) (hcd : (a == ("__classdict__" : Str)) = false := by decide) :
    PE X (.Call (.Name x p) [.Lambda params body scope lpos] [] pos) (tLam T TT t) := by
  obtain ⟨oc, od, dV, kV, doc, pm, an, cdv, ct, osl, rfl, lk, hcg, _, _⟩ := Fg.ex
  refine ⟨fun pins s σ H Q I h => ?_⟩
  obtain ⟨hT, h⟩ := h
  refine wpAny_Call_Name_kw (ld_glob I hg hm ?_ hdb)
  refine PySem.W.callWith_K (h₀ := X.base) I.ok.mod.kin Fg.kp ?_ (by rfl) (by rfl)
  show wpAny _ _ (spliced ((false, eval (.Lambda params body scope lpos) X.env) :: backTo pos (starEach [] X.env))) _ _ s
  refine Calls.spliced_cons (lam_make2 I TB hcode hmT hu hT hdef (L.has I.ok) fun f c' pm' ctv H1 s' I1 eN T1 hf hfn hfr hco => ?_)
  refine Calls.spliced_nil ⟨I1.kIn, ?_⟩
  have rc : codeAny (model X.prog X.w) X.A (.call (.ref g) ⟨[.ref f], []⟩) (CR CX0 X.stack X.prog X.w H1 s' Q E0) s' := by
    refine run_ofS (N := Ng) (ps := [a]) (us := [.ref f]) (vs := [.ref f]) lk hcg Sg hr I1.env0 (hb s' [.ref f] I1.kIn rfl) (.cons rfl .nil) rfl fun hr' => ?_
    obtain ⟨t', ht', hq'⟩ := hG cdv _ f c' s' H1 Q (fun E H' Q' => t E σ H' Q') hr' (fun W pn xe p1 p2 tk => pe_actN I1 L hf hfn hfr (hbind _ _ _ _ _) tk hr' (fun A outer s H E hr2 => hbody A outer s H E f c' hr2) hNg hva hd hcd) hco (h H1 eN T1)
    exact ⟨t', ht'.nox, hq'⟩
  refine wpAny_call (codeAny_mono rc fun r s2 hq => ?_)
  cases r with
  | error e => exact (show False from hq).elim
  | ok fl =>
    cases fl with
    | ret u => exact I1.after hq
    | next => exact False.elim hq
    | brk => exact False.elim hq
    | cont => exact False.elim hq
end
end WB
namespace WB
open PySem PySem.Spec PyProof.Rows L2 LamX
structure SaysWT (fa : List He.Fa) (fn : List He5.DefA) (ex : List Fx) (tf : List He.Defn) (h : Heap) (K : Fr') : Prop where
  c : SaysW fa fn ex K
  hd : ∀ p ∈ tf, PySem.W.codeHdIn K (He.cT K p).1 (He.cT K p).2 = true
  out : ∀ p ∈ tf, K.lookup (He.cT K p).2 = none
  empty : ∀ p ∈ tf, h.get? (He.cT K p).2 = some { cls := .none, data := .fields #[] }
abbrev AlWT : Type := He.AlD × Bool
def obsWT (n : Nat) (fa : List He.Fa) (fn : List He5.DefA) (ex : List Fx) (tf : List He.Defn) (g : Addr → Option Obj) : AlWT := (obsW fa fn ex (He.frT g (asB g n)), He.tabsB g tf (He.frT g (asB g n)))
theorem saysWT_of {n : Nat} {fa : List He.Fa} {fn : List He5.DefA} {ex : List Fx} {tf : List He.Defn} {h : Heap} (e : obsWT n fa fn ex tf h.get? = (He5.valA fn, true)) : SaysWT fa fn ex tf h (He.frT h.get? (asB h.get? n)) := by
  have e1 : obsW fa fn ex (He.frT h.get? (asB h.get? n)) = He5.valA fn := congrArg (fun z : AlWT => z.1) e
  have e2 : He.tabsB h.get? tf (He.frT h.get? (asB h.get? n)) = true := congrArg (fun z : AlWT => z.2) e
  have key : ∀ p ∈ tf, PySem.W.codeHdIn (He.frT h.get? (asB h.get? n)) (He.cT (He.frT h.get? (asB h.get? n)) p).1 (He.cT (He.frT h.get? (asB h.get? n)) p).2 = true ∧ ∃ o, h.get? (He.cT (He.frT h.get? (asB h.get? n)) p).2 = some o ∧ He.emptyTab o = true := fun p hp => by
    obtain ⟨h3, h4⟩ := He.ba (List.all_eq_true.mp e2 p hp)
    refine ⟨h3, ?_⟩
    cases q : h.get? (He.cT (He.frT h.get? (asB h.get? n)) p).2 with
    | none =>
      rw [q] at h4
      cases h4
    | some o =>
      rw [q] at h4
      exact ⟨o, rfl, h4⟩
  refine ⟨e1, fun p hp => (key p hp).1, fun p hp => ?_, fun p hp => ?_⟩
  · obtain ⟨_, o, q, z⟩ := key p hp
    exact He.frT_none q z
  · obtain ⟨_, o, q, z⟩ := key p hp
    rw [q, He.emptyTab_eq z]
def hookWT (n : Nat) (fa : List He.Fa) (fn : List He5.DefA) (ex : List Fx) (tf : List He.Defn) : PySem.W.Hook where
  α := AlWT
  obs := fun s => obsWT n fa fn ex tf s.heap.get?
  val := fun _ => (He5.valA fn, true)
  says := fun _ h => ∃ K : Fr', K.In h ∧ SaysWT fa fn ex tf h K
  of := fun _ _ e => ⟨_, He.frT_in, saysWT_of e⟩
  keeps := fun _ _ _ ⟨K, hK, c⟩ k => ⟨K, PySem.W.Frag.In.keeps hK k, ⟨c.c, c.hd, c.out, fun p hp => k _ _ (c.empty p hp)⟩⟩
theorem obsWT_eq {n : Nat} {fa : List He.Fa} {fn : List He5.DefA} {ex : List Fx} {tf : List He.Defn} {g : Addr → Option Obj} {s : Shared} (h : ∀ a, g a = s.heap.get? a) : obsWT n fa fn ex tf g = (hookWT n fa fn ex tf).obs s := by
  have e : g = s.heap.get? := funext h
  rw [e] <;> rfl
theorem walk_ofTE {l : PySem.W.OpenLaw} {n k : Nat} {q : Program} {loose : List Str} {XP : (Str → Option Value) → Heap → Prop} {YP : World → Heap → Prop} {d : DefRec} {CX : CXT} {x : Str}
    (hn : l.most = some n) (hn2 : n ≤ sizeLine) (hdf : d.params.defaults = []) (hr : Room k callerA)
    (F : ∀ (w : World) (mg : Str → Option Value) (fa : Addr) (h : Heap), YP w h → h.Ns mainGlobals mg → mg d.name = some (.ref fa) → ∃ K : PySem.W.Frag, K.In h ∧ LawAtS l w K CX k n x mg fa h)
    (hCX : ∀ (H : Hp) (s : Shared) (e : Value) (s' : Shared), CX [] H s (fun _ _ _ => False) e s' → False) :
    PySem.W.WalkO q loose XP YP l.row.toRowW d [] (fun f vs => PySem.call f vs) := by
  refine Att.attach_callB hn hdf fun w s₀ s₁ mg mb fa o pm cd doc a vs ns G Y ho hd hcd hmg hobj hints hlen hbits hg => ?_
  obtain ⟨K, KX, fd, cs, sp, hT, nT, C, hb, hsp, hF⟩ := F w mg fa _ Y G.T.g hmg
  exact law_callTs KX G.T.g G.T.b G.T.builtins G.T.nolimit hg hT nT C G.T.bmain hobj hints (Nat.le_trans hlen hn2) hr hF hb (fun H hH hS => hsp H a ns hlen hbits hH hS) fun H e s' => hCX H s₁ e s'
def ExmAll (K : PySem.W.Frag) (l : List Str) : Prop := ∀ x ∈ l, ∀ y ∈ l, PySem.W.exmOne K (.ref (He.ga K x)) (.ref (He.ga K y)) = some (decide (x = y))
def exmAllB (l : List Str) : PySem.W.Frag → Bool := fun K => l.all fun x => l.all fun y => decide (PySem.W.exmOne K (.ref (He.ga K x)) (.ref (He.ga K y)) = some (decide (x = y)))
theorem exmAllB_ok {K : PySem.W.Frag} {l : List Str} (h : exmAllB l K = true) : ExmAll K l := fun x hx y hy => of_decide_eq_true (List.all_eq_true.mp (List.all_eq_true.mp h x hx) y hy)
def tabsOf (K : PySem.W.Frag) (l : List Str) : List (Addr × Str) := l.map fun x => ((He.cT K (x, none)).2, (x ++ ".<locals>.") ++ "<lambda>")
theorem tabs_ofL {K : PySem.W.Frag} {l : List Str} {H : Hp} (h : ∀ p ∈ (l.map fun x => ((x, none) : He.Defn)).map (He.cT K), H p.2 = some (.tbl #[])) : Tabs (tabsOf K l) H := by
  intro p hp
  obtain ⟨x, hx, rfl⟩ := List.mem_map.mp hp
  exact TabS.nil (h (He.cT K (x, none)) (List.mem_map.mpr ⟨(x, none), List.mem_map.mpr ⟨x, hx, rfl⟩, rfl⟩))
end WB
namespace WB
open PySem PySem.Spec PyProof.Rows L2
def kwdAt (f : Str × Option Str) (x : Str) (K : PySem.W.Frag) : Addr := match K.lookup (He.fAd K f) with
  | some ⟨_, _, .func fd, _⟩ => (match fd.kwdefaults with
    | .ref D => (match PySem.W.nsIn K D x with
      | some (some (.ref b)) => b
      | _ => 0)
    | _ => 0)
  | _ => 0
end WB
namespace WB
open PySem PySem.Spec PyProof.Rows L2 LamX
def top (i : Nat) : Stmt := PySem.Challenge.pw_wherebegun_k14_loops_refused.main.body.getD i (.Pass ⟨0, 0, 0, 0⟩)
abbrev st_is_integer : Stmt := top 24
abbrev st_is_name : Stmt := top 26
abbrev st_is_word : Stmt := top 27
abbrev st_is_row : Stmt := top 28
abbrev st_check_signs : Stmt := top 30
abbrev st_is_step : Stmt := top 33
abbrev st_is_turn : Stmt := top 34
abbrev st_check_states : Stmt := top 36
abbrev st_check_rows : Stmt := top 37
abbrev st_check_turns : Stmt := top 38
abbrev st_check_yes : Stmt := top 39
abbrev st_Loop_init : Stmt := inClass (top 43) 0
abbrev st_law_cell : Stmt := top 45
abbrev st_law_pool : Stmt := top 46
abbrev st_law_draw : Stmt := top 47
abbrev st_law_shufU : Stmt := top 48
abbrev st_law_faceX : Stmt := top 49
abbrev st_law_wholeK : Stmt := top 50
abbrev st_law_oddM : Stmt := top 51
abbrev st_law_signs : Stmt := top 52
abbrev st_law_is_word : Stmt := top 53
abbrev st_law_name : Stmt := top 54
abbrev st_law_names : Stmt := top 55
abbrev st_law_amount : Stmt := top 56
abbrev st_law_model : Stmt := top 57
abbrev st_law_lineF : Stmt := top 58
abbrev st_law_is_name : Stmt := top 59
abbrev st_law_is_step27 : Stmt := top 60
abbrev st_law_is_end27 : Stmt := top 61
abbrev st_law_bad_signs : Stmt := top 62
abbrev st_law_states_due : Stmt := top 63
abbrev st_law_rows_due : Stmt := top 64
abbrev st_law_ends_due : Stmt := top 65
abbrev st_law_yes_due : Stmt := top 66
abbrev st_law_loop_due : Stmt := top 67
abbrev st_law_parts : Stmt := top 68
abbrev st_law_bent : Stmt := top 69
abbrev st_law_spoilt_line : Stmt := top 70
abbrev st_law_spoilt : Stmt := top 71
abbrev st_law_heard14 : Stmt := top 72
abbrev st_law_parts_right : Stmt := top 73
abbrev st_law_right14 : Stmt := top 74
abbrev st_law_at_the_limit : Stmt := top 75
abbrev st_law14 : Stmt := top 76
def d_is_integer : He5.DefA := ⟨fun K => (He.ga K "is_integer"), "is_integer", "is_integer", defArgs st_is_integer, defBody st_is_integer, defScope st_is_integer, [], []⟩
def d_is_name : He5.DefA := ⟨fun K => (He.ga K "is_name"), "is_name", "is_name", defArgs st_is_name, defBody st_is_name, defScope st_is_name, [], []⟩
def d_is_word : He5.DefA := ⟨fun K => (He.ga K "is_word"), "is_word", "is_word", defArgs st_is_word, defBody st_is_word, defScope st_is_word, [.str "abcdefghijklmnopqrstuvwxyz"], []⟩
def d_is_row : He5.DefA := ⟨fun K => (He.ga K "is_row"), "is_row", "is_row", defArgs st_is_row, defBody st_is_row, defScope st_is_row, [], []⟩
def d_check_signs : He5.DefA := ⟨fun K => (He.ga K "check_signs"), "check_signs", "check_signs", defArgs st_check_signs, defBody st_check_signs, defScope st_check_signs, [], []⟩
def d_is_step : He5.DefA := ⟨fun K => (He.ga K "is_step"), "is_step", "is_step", defArgs st_is_step, defBody st_is_step, defScope st_is_step, [], []⟩
def d_is_turn : He5.DefA := ⟨fun K => (He.ga K "is_turn"), "is_turn", "is_turn", defArgs st_is_turn, defBody st_is_turn, defScope st_is_turn, [], []⟩
def d_check_states : He5.DefA := ⟨fun K => (He.ga K "check_states"), "check_states", "check_states", defArgs st_check_states, defBody st_check_states, defScope st_check_states, [], []⟩
def d_check_rows : He5.DefA := ⟨fun K => (He.ga K "check_rows"), "check_rows", "check_rows", defArgs st_check_rows, defBody st_check_rows, defScope st_check_rows, [], []⟩
def d_check_turns : He5.DefA := ⟨fun K => (He.ga K "check_turns"), "check_turns", "check_turns", defArgs st_check_turns, defBody st_check_turns, defScope st_check_turns, [], []⟩
def d_check_yes : He5.DefA := ⟨fun K => (He.ga K "check_yes"), "check_yes", "check_yes", defArgs st_check_yes, defBody st_check_yes, defScope st_check_yes, [], []⟩
def d_Loop_init : He5.DefA := ⟨fun K => (He.ma K (He.ga K "Loop") "__init__"), "__init__", "Loop.__init__", defArgs st_Loop_init, defBody st_Loop_init, defScope st_Loop_init, [.adr (He.dflAt ("Loop", some "__init__") 0)], [("yes", .adr (kwdAt ("Loop", some "__init__") "yes"))]⟩
def d_law_cell : He5.DefA := ⟨fun K => (He.ga K "_law_cell"), "_law_cell", "_law_cell", defArgs st_law_cell, defBody st_law_cell, defScope st_law_cell, [], []⟩
def d_law_pool : He5.DefA := ⟨fun K => (He.ga K "_law_pool"), "_law_pool", "_law_pool", defArgs st_law_pool, defBody st_law_pool, defScope st_law_pool, [], []⟩
def d_law_draw : He5.DefA := ⟨fun K => (He.ga K "_law_draw"), "_law_draw", "_law_draw", defArgs st_law_draw, defBody st_law_draw, defScope st_law_draw, [], []⟩
def d_law_shufU : He5.DefA := ⟨fun K => (He.ga K "_law_shuffled"), "_law_shuffled", "_law_shuffled", defArgs st_law_shufU, defBody st_law_shufU, defScope st_law_shufU, [], []⟩
def d_law_faceX : He5.DefA := ⟨fun K => (He.ga K "_law_face"), "_law_face", "_law_face", defArgs st_law_faceX, defBody st_law_faceX, defScope st_law_faceX, [], []⟩
def d_law_wholeK : He5.DefA := ⟨fun K => (He.ga K "_law_whole"), "_law_whole", "_law_whole", defArgs st_law_wholeK, defBody st_law_wholeK, defScope st_law_wholeK, [], []⟩
def d_law_oddM : He5.DefA := ⟨fun K => (He.ga K "_law_odd"), "_law_odd", "_law_odd", defArgs st_law_oddM, defBody st_law_oddM, defScope st_law_oddM, [], []⟩
def d_law_signs : He5.DefA := ⟨fun K => (He.ga K "_law_signs"), "_law_signs", "_law_signs", defArgs st_law_signs, defBody st_law_signs, defScope st_law_signs, [], []⟩
def d_law_is_word : He5.DefA := ⟨fun K => (He.ga K "_law_is_word"), "_law_is_word", "_law_is_word", defArgs st_law_is_word, defBody st_law_is_word, defScope st_law_is_word, [], []⟩
def d_law_name : He5.DefA := ⟨fun K => (He.ga K "_law_name"), "_law_name", "_law_name", defArgs st_law_name, defBody st_law_name, defScope st_law_name, [], []⟩
def d_law_names : He5.DefA := ⟨fun K => (He.ga K "_law_names"), "_law_names", "_law_names", defArgs st_law_names, defBody st_law_names, defScope st_law_names, [], []⟩
def d_law_amount : He5.DefA := ⟨fun K => (He.ga K "_law_amount"), "_law_amount", "_law_amount", defArgs st_law_amount, defBody st_law_amount, defScope st_law_amount, [], []⟩
def d_law_model : He5.DefA := ⟨fun K => (He.ga K "_law_model"), "_law_model", "_law_model", defArgs st_law_model, defBody st_law_model, defScope st_law_model, [], []⟩
def d_law_lineF : He5.DefA := ⟨fun K => (He.ga K "_law_line"), "_law_line", "_law_line", defArgs st_law_lineF, defBody st_law_lineF, defScope st_law_lineF, [], []⟩
def d_law_is_name : He5.DefA := ⟨fun K => (He.ga K "_law_is_name"), "_law_is_name", "_law_is_name", defArgs st_law_is_name, defBody st_law_is_name, defScope st_law_is_name, [], []⟩
def d_law_is_step27 : He5.DefA := ⟨fun K => (He.ga K "_law_is_step"), "_law_is_step", "_law_is_step", defArgs st_law_is_step27, defBody st_law_is_step27, defScope st_law_is_step27, [], []⟩
def d_law_is_end27 : He5.DefA := ⟨fun K => (He.ga K "_law_is_end"), "_law_is_end", "_law_is_end", defArgs st_law_is_end27, defBody st_law_is_end27, defScope st_law_is_end27, [], []⟩
def d_law_bad_signs : He5.DefA := ⟨fun K => (He.ga K "_law_bad_signs"), "_law_bad_signs", "_law_bad_signs", defArgs st_law_bad_signs, defBody st_law_bad_signs, defScope st_law_bad_signs, [], []⟩
def d_law_states_due : He5.DefA := ⟨fun K => (He.ga K "_law_states_due"), "_law_states_due", "_law_states_due", defArgs st_law_states_due, defBody st_law_states_due, defScope st_law_states_due, [], []⟩
def d_law_rows_due : He5.DefA := ⟨fun K => (He.ga K "_law_rows_due"), "_law_rows_due", "_law_rows_due", defArgs st_law_rows_due, defBody st_law_rows_due, defScope st_law_rows_due, [], []⟩
def d_law_ends_due : He5.DefA := ⟨fun K => (He.ga K "_law_ends_due"), "_law_ends_due", "_law_ends_due", defArgs st_law_ends_due, defBody st_law_ends_due, defScope st_law_ends_due, [], []⟩
def d_law_yes_due : He5.DefA := ⟨fun K => (He.ga K "_law_yes_due"), "_law_yes_due", "_law_yes_due", defArgs st_law_yes_due, defBody st_law_yes_due, defScope st_law_yes_due, [], []⟩
def d_law_loop_due : He5.DefA := ⟨fun K => (He.ga K "_law_loop_due"), "_law_loop_due", "_law_loop_due", defArgs st_law_loop_due, defBody st_law_loop_due, defScope st_law_loop_due, [], []⟩
def d_law_parts : He5.DefA := ⟨fun K => (He.ga K "_law_parts"), "_law_parts", "_law_parts", defArgs st_law_parts, defBody st_law_parts, defScope st_law_parts, [], []⟩
def d_law_bent : He5.DefA := ⟨fun K => (He.ga K "_law_bent"), "_law_bent", "_law_bent", defArgs st_law_bent, defBody st_law_bent, defScope st_law_bent, [], []⟩
def d_law_spoilt_line : He5.DefA := ⟨fun K => (He.ga K "_law_spoilt_line"), "_law_spoilt_line", "_law_spoilt_line", defArgs st_law_spoilt_line, defBody st_law_spoilt_line, defScope st_law_spoilt_line, [], []⟩
def d_law_spoilt : He5.DefA := ⟨fun K => (He.ga K "_law_spoilt"), "_law_spoilt", "_law_spoilt", defArgs st_law_spoilt, defBody st_law_spoilt, defScope st_law_spoilt, [], []⟩
def d_law_heard14 : He5.DefA := ⟨fun K => (He.ga K "_law_heard"), "_law_heard", "_law_heard", defArgs st_law_heard14, defBody st_law_heard14, defScope st_law_heard14, [], []⟩
def d_law_parts_right : He5.DefA := ⟨fun K => (He.ga K "_law_parts_right"), "_law_parts_right", "_law_parts_right", defArgs st_law_parts_right, defBody st_law_parts_right, defScope st_law_parts_right, [], []⟩
def d_law_right14 : He5.DefA := ⟨fun K => (He.ga K "_law_right"), "_law_right", "_law_right", defArgs st_law_right14, defBody st_law_right14, defScope st_law_right14, [], []⟩
def d_law_at_the_limit : He5.DefA := ⟨fun K => (He.ga K "_law_at_the_limit"), "_law_at_the_limit", "_law_at_the_limit", defArgs st_law_at_the_limit, defBody st_law_at_the_limit, defScope st_law_at_the_limit, [], []⟩
def d_law14 : He5.DefA := ⟨fun K => (He.ga K "law"), "law", "law", defArgs st_law14, defBody st_law14, defScope st_law14, [], []⟩
abbrev st_InvalidSigns_init : Stmt := inClass (top 4) 0
def d_InvalidSigns_init : He5.DefA := ⟨fun K => (He.ma K (He.ga K "InvalidSigns") "__init__"), "__init__", "InvalidSigns.__init__", defArgs st_InvalidSigns_init, defBody st_InvalidSigns_init, defScope st_InvalidSigns_init, [], []⟩
abbrev st_InvalidStates_init : Stmt := inClass (top 9) 0
def d_InvalidStates_init : He5.DefA := ⟨fun K => (He.ma K (He.ga K "InvalidStates") "__init__"), "__init__", "InvalidStates.__init__", defArgs st_InvalidStates_init, defBody st_InvalidStates_init, defScope st_InvalidStates_init, [], []⟩
abbrev st_InvalidRows_init : Stmt := inClass (top 10) 0
def d_InvalidRows_init : He5.DefA := ⟨fun K => (He.ma K (He.ga K "InvalidRows") "__init__"), "__init__", "InvalidRows.__init__", defArgs st_InvalidRows_init, defBody st_InvalidRows_init, defScope st_InvalidRows_init, [], []⟩
abbrev st_InvalidTurns_init : Stmt := inClass (top 11) 0
def d_InvalidTurns_init : He5.DefA := ⟨fun K => (He.ma K (He.ga K "InvalidTurns") "__init__"), "__init__", "InvalidTurns.__init__", defArgs st_InvalidTurns_init, defBody st_InvalidTurns_init, defScope st_InvalidTurns_init, [], []⟩
def fn : List He5.DefA := [d_is_integer, d_is_name, d_is_word, d_is_row, d_check_signs, d_is_step, d_is_turn, d_check_states, d_check_rows, d_check_turns, d_check_yes, d_Loop_init, d_law_cell, d_law_pool, d_law_draw, d_law_shufU, d_law_faceX, d_law_wholeK, d_law_oddM, d_law_signs, d_law_is_word, d_law_name, d_law_names, d_law_amount, d_law_model, d_law_lineF, d_law_is_name, d_law_is_step27, d_law_is_end27, d_law_bad_signs, d_law_states_due, d_law_rows_due, d_law_ends_due, d_law_yes_due, d_law_loop_due, d_law_parts, d_law_bent, d_law_spoilt_line, d_law_spoilt, d_law_heard14, d_law_parts_right, d_law_right14, d_law_at_the_limit, d_law14, d_InvalidSigns_init, d_InvalidStates_init, d_InvalidRows_init, d_InvalidTurns_init]
def fa : List He.Fa := [.glo "is_integer", .glo "is_name", .glo "is_word", .glo "is_row", .glo "check_signs", .glo "is_step", .glo "is_turn", .glo "check_states", .glo "check_rows", .glo "check_turns", .glo "check_yes", .glo "_law_cell", .glo "_law_pool", .glo "_law_draw", .glo "_law_shuffled", .glo "_law_face", .glo "_law_whole", .glo "_law_odd", .glo "_law_signs", .glo "_law_is_word", .glo "_law_name", .glo "_law_names", .glo "_law_amount", .glo "_law_model", .glo "_law_line", .glo "_law_is_name", .glo "_law_is_step", .glo "_law_is_end", .glo "_law_bad_signs", .glo "_law_states_due", .glo "_law_rows_due", .glo "_law_ends_due", .glo "_law_yes_due", .glo "_law_loop_due", .glo "_law_parts", .glo "_law_bent", .glo "_law_spoilt_line", .glo "_law_spoilt", .glo "_law_heard", .glo "_law_parts_right", .glo "_law_right", .glo "_law_at_the_limit", .glo "law", .glo "InvalidRows", .glo "InvalidSigns", .glo "InvalidStates", .glo "InvalidTurns", .str "LETTERS" "abcdefghijklmnopqrstuvwxyz", .int "LONGEST_NAME" 8, .glo "Loop", .str "MARKS" "abcdefghijklmnopqrstuvwxyz0123456789", .int "MOST_SIGNS" 4, .int "MOST_STATES" 6, .int "MOST_WORD" 600, .free "abs", .free "all", .free "bool", .free "dict", .free "divmod", .free "enumerate", .free "int", .free "isinstance", .free "len", .free "list", .free "max", .free "min", .free "range", .free "set", .free "sorted", .free "str", .free "tuple", .cls "Loop", .noat "Loop" "letters", .noat "Loop" "order", .noat "Loop" "table", .noat "Loop" "ending", .noat "Loop" "marked", .mkr "Loop"]
def ex : List Fx := [insB "Loop", noB "Loop", excKB "InvalidSigns" "given", excKB "InvalidStates" "index", excKB "InvalidRows" "index", excKB "InvalidTurns" "index", tup0B (He.dflAt ("Loop", some "__init__") 0), tup0B (kwdAt ("Loop", some "__init__") "yes"), exmAllB ["InvalidSigns", "InvalidStates", "InvalidRows", "InvalidTurns"]]
def looseN : List Str := (["_wall", "WrongValue", "InvalidWord", "InvalidSigns", "InvalidNumber", "InvalidRow", "NotALoop", "OtherSigns", "InvalidStates", "InvalidRows", "InvalidTurns", "WrongName", "NoAnswer", "TooMany", "MOST_SIGNS"] : List Str) ++ (["MOST_STATES", "MOST_WORD", "MOST_ROUNDS", "MOST_TIMES", "LETTERS", "MARKS", "LONGEST_NAME", "is_integer", "is_within", "is_name", "is_word", "is_row", "check_signs", "place_of", "is_step"] : List Str) ++ (["is_turn", "check_loop", "check_states", "check_rows", "check_turns", "check_yes", "moves", "pairs_along", "along", "Loop", "_law_cell", "_law_pool", "_law_draw", "_law_shuffled", "_law_face"] : List Str) ++ (["_law_whole", "_law_odd", "_law_signs", "_law_is_word", "_law_name", "_law_names", "_law_amount", "_law_model", "_law_line", "_law_is_name", "_law_is_step", "_law_is_end", "_law_bad_signs", "_law_states_due", "_law_rows_due"] : List Str) ++ (["_law_ends_due", "_law_yes_due", "_law_loop_due", "_law_parts", "_law_bent", "_law_spoilt_line", "_law_spoilt", "_law_heard", "_law_parts_right", "_law_right", "_law_at_the_limit"] : List Str)
abbrev RR : PySem.W.OpenRow := PySem.W.OpenLaw.row PySem.Challenge.rw_wherebegun_k14_loops_refused
def tabL : List Str := ["_law_parts_right"]
def tf : List He.Defn := tabL.map fun x => (x, none)
abbrev hk : PySem.W.Hook := hookWT 6 fa fn ex tf
def ob (s : PySem.W.SharedT) : AlWT := obsWT 6 fa fn ex tf (HandSHeadRun.getT s)
theorem ob_eq (s : PySem.W.SharedT) : ob s = hk.obs s.abs := obsWT_eq (HandSHeadRun.getT_eq s)
theorem runH (w : World) : HandSHeadRun.RunEq RR (PySem.W.view RR.prog [76]) hk ob 20000 looseN w := by
  intro os
  kernel_rfl
end WB
namespace WB
section
open PySem PySem.Spec PyProof.Rows L2
theorem Ex.drop {H H1 H2 : Hp} {p : Addr} (hp : H p = none) (a : Ex [] H H1) (b : Ex [p] H1 H2) : Ex [] H H2 := fun x o _ h => b x o (by simpa using ne_of_none h hp) (a x o (by simp) h)
end
end WB
namespace WB
open PySem PySem.Spec PyProof.Rows L2
def sp_is_row (K : PySem.W.Frag) : Sp := fun vs H Q _ => ∃ (v : V) (m : Int), vs = [v, .int m] ∧ ((∃ a xs, v = .ref a ∧ SqT K H a xs ∧ Q (.bl (decide ((xs.length : Int) = m))) H) ∨ (∃ n, Kd K H v n ∧ n ≠ "tuple" ∧ Q (.bl false) H))
section
variable {K : PySem.W.Frag} {H : Hp} {Q : VK} {E : XK}
theorem u_row {a : Addr} {xs : List V} {m : Int} (h : SqT K H a xs) (k : Q (.bl (decide ((xs.length : Int) = m))) H) : sp_is_row K ([.ref a, .int m] ++ []) H Q E := ⟨_, _, rfl, .inl ⟨_, _, rfl, h, k⟩⟩
end
end WB
namespace WB
open PySem PySem.Spec PyProof.Rows L2
theorem Ex.dropM {H H1 H2 : Hp} {p : Addr} {m : List Addr} (hp : H p = none) (a : Ex m H H1) (b : Ex [p] H1 H2) : Ex m H H2 := fun x o hx h => b x o (by simpa using ne_of_none h hp) (a x o hx h)
theorem mem_cut {l : List Nat} {lo hi : Option Int} {c : Nat} (h : c ∈ cut l lo hi) : c ∈ l := List.mem_of_mem_drop (List.mem_of_mem_take h)
theorem cut_le {l : List Nat} {lo hi : Option Int} : (cut l lo hi).length ≤ l.length := by
  unfold cut
  rw [List.length_take, List.length_drop]
  omega
theorem plain_app {l m : List Nat} (h : plain l) (h2 : plain m) : plain (l ++ m) := fun c hc => by
  rcases List.mem_append.mp hc with z | z
  · exact h c z
  · exact h2 c z
theorem plain_cut {l : List Nat} {lo hi : Option Int} (h : plain l) : plain (cut l lo hi) := fun c hc => h c (mem_cut hc)
end WB
namespace WB
open PySem PySem.Spec PyProof.Rows L2
def oddS : List (List Nat) := [[], [97], [97, 98], [65], [97, 32, 98], [97, 97], [97, 10], [97, 98, 99, 100, 101]]
def kA : Key := .inr "a"
inductive OddAt (m : List Addr) (H : Hp) : V → Prop
  | non : OddAt m H .non
  | bl (b : Bool) : OddAt m H (.bl b)
  | int (i : Int) (h : i.natAbs ≤ 10 ^ 38) : OddAt m H (.int i)
  | str (l : List Nat) (h : l ∈ oddS) : OddAt m H (vS l)
  | l0 {a : Addr} (n : a ∉ m) (h : H a = some (.lst [])) : OddAt m H (.ref a)
  | l1 {a : Addr} (n : a ∉ m) (h : H a = some (.lst [vS [97]])) : OddAt m H (.ref a)
  | d0 {a : Addr} (n : a ∉ m) (h : H a = some (.dK [])) : OddAt m H (.ref a)
  | d1 {a : Addr} (n : a ∉ m) (h : H a = some (.dK [(kA, .int 1)])) : OddAt m H (.ref a)
  | t0 {a : Addr} (n : a ∉ m) (h : H a = some (.tup [])) : OddAt m H (.ref a)
  | t1 {a : Addr} (n : a ∉ m) (h : H a = some (.tup [vS [97]])) : OddAt m H (.ref a)
  | t2 {a : Addr} (n : a ∉ m) (h : H a = some (.tup [.int 0, .int 1])) : OddAt m H (.ref a)
  | t3 {a b c d e : Addr} (n : a ∉ m) (nb : b ∉ m) (nc : c ∉ m) (nd : d ∉ m) (ne : e ∉ m) (h : H a = some (.tup [.ref b, .ref c])) (hb : H b = some (.lst [])) (hc : H c = some (.dK [(kA, .ref d)])) (hd : H d = some (.tup [.int 1, .ref e])) (he : H e = some (.lst [])) : OddAt m H (.ref a)
theorem OddAt.ex {m : List Addr} {H H' : Hp} {v : V} (e : Ex m H H') (h : OddAt m H v) : OddAt m H' v := by
  cases h with
  | non => exact .non
  | bl b => exact .bl b
  | int i h => exact .int i h
  | str l h => exact .str l h
  | l0 n h => exact .l0 n (e _ _ n h)
  | l1 n h => exact .l1 n (e _ _ n h)
  | d0 n h => exact .d0 n (e _ _ n h)
  | d1 n h => exact .d1 n (e _ _ n h)
  | t0 n h => exact .t0 n (e _ _ n h)
  | t1 n h => exact .t1 n (e _ _ n h)
  | t2 n h => exact .t2 n (e _ _ n h)
  | t3 n nb nc nd ne h hb hc hd he => exact .t3 n nb nc nd ne (e _ _ n h) (e _ _ nb hb) (e _ _ nc hc) (e _ _ nd hd) (e _ _ ne he)
theorem oddS_len {l : List Nat} (h : l ∈ oddS) : l.length ≤ 5 := by
  simp only [oddS, List.mem_cons, List.not_mem_nil, or_false] at h
  rcases h with rfl | rfl | rfl | rfl | rfl | rfl | rfl | rfl <;> decide
theorem oddS_plain {l : List Nat} (h : l ∈ oddS) : plain l := by
  simp only [oddS, List.mem_cons, List.not_mem_nil, or_false] at h
  rcases h with rfl | rfl | rfl | rfl | rfl | rfl | rfl | rfl <;> (unfold plain; decide)
theorem Kd.dict {K : PySem.W.Frag} {H : Hp} {a : Addr} {kvs : List (Key × V)} (h : H a = some (.dK kvs)) : Kd K H (.ref a) "dict" := ⟨.base (.dK h), by decide +kernel⟩
theorem OddAt.kd {K : PySem.W.Frag} {m : List Addr} {H : Hp} {v : V} (h : OddAt m H v) : (∃ l ∈ oddS, v = vS l) ∨ ∃ n, Kd K H v n ∧ n ≠ "str" := by
  cases h with
  | non => exact .inr ⟨_, .non, by decide⟩
  | bl b => exact .inr ⟨_, .bl, by decide⟩
  | int i h => exact .inr ⟨_, .int, by decide⟩
  | str l h => exact .inl ⟨l, h, rfl⟩
  | l0 n h => exact .inr ⟨_, .lst h, by decide⟩
  | l1 n h => exact .inr ⟨_, .lst h, by decide⟩
  | d0 n h => exact .inr ⟨_, .dict h, by decide⟩
  | d1 n h => exact .inr ⟨_, .dict h, by decide⟩
  | t0 n h => exact .inr ⟨_, .tup (SqT.of h), by decide⟩
  | t1 n h => exact .inr ⟨_, .tup (SqT.of h), by decide⟩
  | t2 n h => exact .inr ⟨_, .tup (SqT.of h), by decide⟩
  | t3 n nb nc nd ne h hb hc hd he => exact .inr ⟨_, .tup (SqT.of h), by decide⟩
def sp_law_is_word (K : PySem.W.Frag) : Sp := fun vs H Q _ => ∃ (v : V) (s : List Nat), vs = [v, vS s] ∧ ((∃ l : List Nat, v = vS l ∧ l.length ≤ 10000 ∧ plain l ∧ ∀ H', Ex [] H H' → Q (.bl (isWord l s)) H') ∨ (∃ n, Kd K H v n ∧ n ≠ "str" ∧ Q (.bl false) H))
section
variable {K : PySem.W.Frag} {H : Hp} {Q : VK} {E : XK}
theorem s_dnew (k : ∀ p H2, H p = none → Ex [] H H2 → H2 p = some (.dK []) → Q (.ref p) H2) {σ : St} : tDNewK σ H Q := fun p hp => k p _ hp (Ex.new hp) upd_same
theorem s_disp1 {σ : St} {ta tb : TE} {z : Key} {v : V} (h : ∀ p H1, H p = none → Ex [] H H1 → H1 p = some (.dK []) → ∀ R : List (V × V) → Hp → Prop, (∀ H2, Ex [] H1 H2 → R [(kV z, v)] H2) → tPairs [(ta, tb)] σ H1 R) (k : ∀ p H2, H p = none → Ex [] H H2 → H2 p = some (.dK [(z, v)]) → Q (.ref p) H2) : tDisp [(ta, tb)] σ H Q := by
  intro p hp
  refine h p _ hp (Ex.new hp) upd_same _ fun H2 e => ⟨e p _ (by simp) upd_same, [(z, v)], rfl, by simp, k p _ hp ?_ ?_⟩
  · intro b o _ hb
    rw [upd_ne (ne_of_none hb hp)]
    exact e b o (by simp) (by rw [upd_ne (ne_of_none hb hp)]; exact hb)
  · exact upd_same
theorem s_pairs1 {σ : St} {ta tb : TE} {R : List (V × V) → Hp → Prop} (k : ta σ H fun x H1 => tb σ H1 fun y H2 => R [(x, y)] H2) : tPairs [(ta, tb)] σ H R := k
theorem eqv_nil {ds : List PyData} : PyData.eqv (.list ds) (.list []) = ds.isEmpty := by
  cases ds with
  | nil => simp [PyData.eqv, PyData.eqvAll]
  | cons d ds => simp [PyData.eqv, PyData.eqvAll]
theorem s_eqLSnil {a b : Addr} {ls : List (List Nat)} (h1 : SqL K H a (ls.map vS)) (h2 : SqL K H b []) (p1 : ∀ l ∈ ls, plain l) (k : Q (.bl ls.isEmpty) H) : rEqD K (.ref a) (.ref b) H Q := by
  refine ⟨_, _, .lst h1 (dp_strs ls), .lst h2 .nil, shaped_strs p1, by decide +kernel, ?_⟩
  rw [eqv_nil]
  cases ls <;> exact k
end
end WB
namespace WB
open PySem PySem.Spec PyProof.Rows L2
def ndc {α : Type} [DecidableEq α] : List α → Nat
  | [] => 0
  | x :: r => if x ∈ r then ndc r else ndc r + 1
theorem ndc_le {α : Type} [DecidableEq α] : ∀ l : List α, ndc l ≤ l.length
  | [] => Nat.le_refl _
  | x :: r => by
    have := ndc_le r
    rw [ndc, List.length_cons]
    split <;> omega
theorem ndc_full {α : Type} [DecidableEq α] : ∀ l : List α, ndc l = l.length ↔ l.Nodup
  | [] => by simp [ndc]
  | x :: r => by
    have h1 := ndc_le r
    rw [ndc, List.length_cons, List.nodup_cons, ← ndc_full r]
    split
    · rename_i h
      constructor
      · intro z; omega
      · intro z; exact absurd h z.1
    · rename_i h
      constructor
      · intro z; exact ⟨h, by omega⟩
      · intro z; omega
theorem take_rev {α : Type} {xs : List α} {i : Nat} (h : i < xs.length) : (xs.take (i + 1)).reverse = xs[i] :: (xs.take i).reverse := by
  rw [List.take_add_one, List.getElem?_eq_getElem h]
  simp
section
variable {prog : Program} {w : World} {A : Around} {R : Result → Shared → Prop} {J : Addr} {fp wr : List Addr} {n : Nat} {P : Nat → Value → Prop} {St : Nat → Heap → Prop}
theorem setLoop (W : Walks prog w A.in1 J fp wr n P St) (c : Addr) (hc : c ∉ fp) (xs : List Str) (hx : xs.length = n) (hb : n < 4000) (hv : ∀ i v, P i v → ∃ t, v = .str (xs.getD i Str.empty) t) :
    ∀ (m i : Nat) (s : Shared), n - i = m → i ≤ n → St i s.heap → s.heap.SetOf (PySem.strKind prog w) c (fun z => decide (z ∈ xs.take i)) (ndc (xs.take i).reverse) →
      (∀ h' tk, (∀ b o, b ∉ c :: wr → s.heap.get? b = some o → h'.get? b = some o) → h'.SetOf (PySem.strKind prog w) c (fun z => decide (z ∈ xs)) (ndc xs.reverse) → R (.ok (.ret .none)) { s with heap := h', toks := tk }) →
      codeAny (model prog w) A (.builtin "set.update.loop" ⟨[.ref c, .ref J], []⟩) R s := by
  have cw : c ∉ wr := fun z => hc (W.sub _ z)
  intro m
  induction m with
  | zero =>
    intro i s e1 e2 st hs k
    obtain rfl : i = n := by omega
    refine codeAny_builtin PyProof.Rows.F.entry_set_update_loop ?_
    rw [Around.under_plainId PyProof.Rows.F.plain_set_update_loop _]
    show wpAny _ _ (pyNext (.ref J) >>= _) _ _ _
    refine wpAny_bind (W.done s _ _ st fun h1 t1 k1 => ?_)
    refine (show wpAny _ _ (ret Value.none) _ _ _ from wpAny_pure (k h1 t1 (fun b o z => k1 b o fun y => z (List.mem_cons_of_mem _ y)) ?_))
    rw [List.take_of_length_le (by omega)] at hs
    obtain ⟨o, es, ep, t, ho, r⟩ := hs
    exact ⟨o, es, ep, t, k1 c o cw ho, r⟩
  | succ m ih =>
    intro i s e1 e2 st hs k
    have lt : i < n := by omega
    have lt2 : i < xs.length := by omega
    refine codeAny_builtin PyProof.Rows.F.entry_set_update_loop ?_
    rw [Around.under_plainId PyProof.Rows.F.plain_set_update_loop _]
    show wpAny _ _ (pyNext (.ref J) >>= _) _ _ _
    refine wpAny_bind (W.item i s _ _ lt st fun v h1 t1 hP st1 k1 => ?_)
    obtain ⟨t, rfl⟩ := hv i v hP
    have eg : xs.getD i Str.empty = xs[i] := by rw [List.getD_eq_getElem?_getD, List.getElem?_eq_getElem lt2]; rfl
    rw [eg]
    have hs1 : h1.SetOf (PySem.strKind prog w) c (fun z => decide (z ∈ xs.take i)) (ndc (xs.take i).reverse) := by
      obtain ⟨o, es, ep, t', ho, r⟩ := hs
      exact ⟨o, es, ep, t', k1 c o cw ho, r⟩
    have hl := ndc_le (xs.take i).reverse
    rw [List.length_reverse, List.length_take] at hl
    show wpAny _ _ (holding [Value.str xs[i] t] (setAdd c (.str xs[i] t)) >>= _) _ _ _
    unfold setAdd
    refine wpAny_bind (wpAny_holding (wpAny_holding (wpAny_bind ((PySem.strKind prog w).pyHash (k := xs[i]) (strKind_is _ _ _ _) ?_))))
    refine wpAny_setAddHashed_of (knd := PySem.strKind prog w) (s := ⟨h1, s.gens, s.drawn, t1 + 1, s.os⟩) (strKind_is _ _ _ _) rfl hs1 (by unfold scanBound; omega) fun h2 sb hs2 => ?_
    have hs3 : h2.SetOf (PySem.strKind prog w) c (fun z => decide (z ∈ xs.take (i + 1))) (ndc (xs.take (i + 1)).reverse) := by
      refine SetOf_congr hs2 (fun z => ?_) ?_
      · rw [List.take_add_one, List.getElem?_eq_getElem lt2, Bool.eq_iff_iff, Bool.or_eq_true, decide_eq_true_iff, decide_eq_true_iff, decide_eq_true_iff, List.mem_append]
        simp
      · rw [take_rev lt2, ndc]
        simp
    refine wpAny_pure ⟨plainId_quiet PyProof.Rows.F.plain_set_update_loop _, ih (i + 1) ⟨h2, s.gens, s.drawn, t1 + 1, s.os⟩ (by omega) lt (W.frame _ h1 _ st1 fun b hbf o e => ?_) hs3 fun h3 t3 k3 hs4 => ?_⟩
    · rw [sb.2 b (fun z : b = c => hc (by rw [← z]; exact hbf))]; exact e
    · refine k h3 t3 (fun b o z e => k3 b o z ?_) hs4
      rw [sb.2 b (fun y : b = c => z (by rw [y]; exact List.mem_cons_self))]
      exact k1 b o (fun y => z (List.mem_cons_of_mem _ y)) e
end
section
variable {prog : Program} {w : World} {A : Around} {E : Value → Shared → Prop} {s : Shared}
abbrev newSetO (led : Bool) : Obj := { cls := .type "set", dict := none, data := .set #[] 0 (.fresh 0 0 led) }
structure Src (prog : Program) (w : World) (h : Heap) (src : Value) (xs : List Str) : Prop where
  any : ∀ {A : Around} {E : Value → Shared → Prop} {s : Shared} {Q : Bool → Shared → Prop}, (∀ b o, h.get? b = some o → s.heap.get? b = some o) → Q false s → wpAny (model prog w) A (Builtin.Frozenset.isAnySet src) Q E s
  ty : ∀ {A : Around} {E : Value → Shared → Prop} {s : Shared} {Q : Value → Shared → Prop}, (∀ b o, h.get? b = some o → s.heap.get? b = some o) → (∀ t, (t == Value.type "dict") = false → Q t s) → wpAny (model prog w) A (typeOf src) Q E s
  it : ∀ {A : Around} {E : Value → Shared → Prop} {s : Shared} {Q : Value → Shared → Prop}, (∀ b o, h.get? b = some o → s.heap.get? b = some o) →
    (∀ (o : Obj) (fp : List Addr) (P : Nat → Value → Prop) (St : Nat → Heap → Prop), (∀ b ∈ fp, b = s.heap.objs.size ∨ b < h.objs.size) → (∀ i v, P i v → ∃ t, v = .str (xs.getD i Str.empty) t) →
      (∀ A' : Around, A'.handled = none → Walks prog w A' s.heap.objs.size fp [s.heap.objs.size] xs.length P St) → St 0 (s.heap.push o) → Q (.ref s.heap.objs.size) { s with heap := s.heap.push o }) → wpAny (model prog w) A (pyIter src) Q E s
theorem updFrom {src : Value} {xs : List Str} {s0 : Heap} {c : Addr} {id : String} {led : Bool} {Q : Unit → Shared → Prop} (hh : A.handled = none) (hs : Src prog w s0 src xs) (hb : xs.length < 4000) (up : ∀ b o, s0.get? b = some o → s.heap.get? b = some o) (hc : s0.objs.size ≤ c) (ho : s.heap.get? c = some (newSetO led))
    (h : ∀ (h' : Heap) (tk : Nat), h'.SetOf (PySem.strKind prog w) c (fun z => decide (z ∈ xs)) (ndc xs.reverse) → (∀ b o, b ≠ c → s.heap.get? b = some o → h'.get? b = some o) → Q () { s with heap := h', toks := tk }) :
    wpAny (model prog w) A (Builtin.Frozenset.updateFrom id c src) Q E s := by
  unfold Builtin.Frozenset.updateFrom
  refine wpAny_bind (hs.any up ?_)
  show wpAny _ _ (do let __do_lift ← typeOf src; _) _ _ _
  refine wpAny_bind (hs.ty up fun t ht => ?_)
  rw [ht]
  show wpAny _ _ (pyIter src >>= _) _ _ _
  refine wpAny_bind (hs.it up fun o fp P St hfp hv hW st => ?_)
  refine wpAny_bind (wpAny_runValue ?_)
  have lt : c < s.heap.objs.size := Heap.lt_size ho
  refine setLoop (hW _ (by simp [hh])) c ?_ xs rfl hb hv (xs.length - 0) 0 { s with heap := s.heap.push o } rfl (Nat.zero_le _) st ?_ fun h' tk k hS => ?_
  · intro z
    rcases hfp c z with e | e
    · exact Nat.ne_of_lt lt e
    · exact Nat.not_lt.mpr hc e
  · exact PyProof.Rows.SetOf_congr ((PyProof.Rows.setObjOf_fresh (knd := PySem.strKind prog w) led).setOf (Heap.get?_push_of_some o ho) (by unfold scanBound; omega)) (fun z => by simp) (by simp [ndc])
  · refine wpAny_pure (h h' tk hS fun b u nb e => k b u ?_ (Heap.get?_push_of_some o e))
    have := Heap.lt_size e
    simp only [List.mem_cons, List.not_mem_nil, or_false, not_or]
    exact ⟨nb, Nat.ne_of_lt this⟩
theorem call_setS {src : Value} {xs : List Str} {Q : Value → Shared → Prop} (hh : A.handled = none) (hs : Src prog w s.heap src xs) (hb : xs.length < 4000)
    (h : ∀ (h' : Heap) (tk : Nat), h'.SetOf (PySem.strKind prog w) s.heap.objs.size (fun z => decide (z ∈ xs)) (ndc xs.reverse) → (∀ b o, s.heap.get? b = some o → h'.get? b = some o) → Q (.ref s.heap.objs.size) { s with heap := h', toks := tk }) :
    wpAny (model prog w) A (call (.type "set") [src]) Q E s := by
  obtain ⟨c, tl, hmro⟩ := PySem.F.called_set.mro
  have q1 := PySem.F.called_set.made
  have q2 := PySem.F.called_set.sub
  have q3 := PySem.F.called_set.notType
  have q4 := PySem.F.called_set.canCreate
  have q5 := PySem.F.typeCall_set_1 src
  refine wpAny_call (codeAny_of_tree (show wpAny _ _ (callAny (.type "set") _) _ _ _ from wpAny_pure ⟨Code.quiet_builtin _ (by decide +kernel), codeAny_builtin PySem.F.entry_type_call ?_⟩))
  rw [Around.under_plain (weight_type_call_type "set" [src] []) rfl]
  repeat (any_goals (first | assumption | wp_step))
  refine codeAny_mono (code_set_new_1 src (E := E) (Q₁ := fun o s₁ => ∃ led : Bool, o = .ref s.heap.objs.size ∧ s₁ = { s with heap := s.heap.push (newSetO led) }) fun led => ⟨led, rfl, rfl⟩) fun r s₁ hr => ?_
  cases r with
  | error e => exact hr
  | ok fl =>
    cases fl with
    | ret o1 =>
      obtain ⟨led, rfl, rfl⟩ := hr
      have hS : (s.heap.push (newSetO led)).get? s.heap.objs.size = some (newSetO led) := Heap.get?_push_size _ rfl
      have hT : Shared.TypeIs { s with heap := s.heap.push (newSetO led) } (.ref s.heap.objs.size) "set" := ⟨_, hS, rfl⟩
      have q6 := PySem.F.called_set.init.lookup
      have q7 := PySem.F.called_set.init.bind (.ref s.heap.objs.size)
      repeat (any_goals (first | assumption | wp_step))
      refine codeAny_mono (codeAny_call_builtin (R := wants (fun r s₂ => r = .none ∧ ∃ h' tk, s₂ = { s with heap := h', toks := tk } ∧ h'.SetOf (PySem.strKind prog w) s.heap.objs.size (fun z => decide (z ∈ xs)) (ndc xs.reverse) ∧
          (∀ b o, s.heap.get? b = some o → h'.get? b = some o)) E) PySem.F.called_set.init.plain PySem.F.entry_set_init (check_set_init_1 hT ?_)) fun r₂ s₂ hr₂ => ?_
      · have up : ∀ b o, s.heap.get? b = some o → (s.heap.push (newSetO led)).get? b = some o := fun b o e => Heap.get?_push_of_some _ e
        unfold Builtin.«set.__init__» noKeywords
        generalize hPI : Builtin.Frozenset.updateFrom = UF
        wp_walk
        subst hPI
        refine updFrom (s := { s with heap := s.heap.push (newSetO led) }) (by simp [hh]) hs hb up (Nat.le_refl _) hS fun h' tk x1 x2 => ?_
        refine (show wpAny _ _ (ret Value.none) _ _ _ from wpAny_pure ⟨rfl, h', tk, rfl, x1, fun b o e => x2 b o (Nat.ne_of_lt (Heap.lt_size e)) (up b o e)⟩)
      · cases r₂ with
        | error e => exact hr₂
        | ok fl₂ =>
          cases fl₂ with
          | ret r =>
            obtain ⟨rfl, h', tk, rfl, x1, x2⟩ := hr₂
            repeat (any_goals (first | assumption | wp_step))
            exact h _ _ x1 x2
          | _ => exact hr₂.elim
    | _ => exact hr.elim
theorem src_str {h : Heap} (x : Str) (u : Tok) : Src prog w h (.str x u) (x.cps.toList.map fun c => ⟨#[c]⟩) where
  any := fun _ q => L2.Fz.anySet q
  ty := fun _ q => wpAny_typeOf (typeIs_str _ _ _) (q _ (by decide))
  it := fun {A E s Q} _ q => wpAny_pyIter_str fun o St hW st => by
    refine q o [s.heap.objs.size] (SignAt x) St (fun b hb => .inl (List.mem_singleton.mp hb)) (fun i v hv => ?_) (fun A' hA => ?_) st
    · obtain ⟨c, u, hc, e⟩ := hv
      refine ⟨u, ?_⟩
      rw [e, List.getD_eq_getElem?_getD, List.getElem?_map, Array.getElem?_toList, hc]
      rfl
    · have e : (x.cps.toList.map fun c => (⟨#[c]⟩ : Str)).length = x.cps.size := by simp
      rw [e]
      exact hW A' hA
theorem src_list {h : Heap} {l : Addr} {items : Array Value} {xs : List Str} (hl : h.IsList l items) (hx : StrsAre items.toList xs) : Src prog w h (.ref l) xs where
  any := fun {A E s Q} up q => by
    have T : s.TypeIs (.ref l) "list" := by
      obtain ⟨o, ho, hc, _⟩ := hl
      exact ⟨o, up _ _ ho, hc⟩
    unfold Builtin.Frozenset.isAnySet
    exact wpAny_bind (wpAny_isInstance T PySem.F.sub_list_set (show wpAny _ _ (isInstance (.ref l) (.type "frozenset")) _ _ _ from wpAny_isInstance T PySem.F.sub_list_frozenset q))
  ty := fun {A E s Q} up q => by
    have T : s.TypeIs (.ref l) "list" := by
      obtain ⟨o, ho, hc, _⟩ := hl
      exact ⟨o, up _ _ ho, hc⟩
    exact wpAny_typeOf T (q _ (by decide))
  it := fun {A E s Q} up q => by
    have hl2 : s.heap.IsList l items := hl.at fun o e => up _ _ e
    have hlt : l < h.objs.size := by
      obtain ⟨o, ho, _⟩ := hl
      exact Heap.lt_size ho
    have hlt2 : l < s.heap.objs.size := by
      obtain ⟨o, ho, _⟩ := hl2
      exact Heap.lt_size ho
    refine wpAny_pyIter_list hl2 (q _ [s.heap.objs.size, l] (fun i v => items[i]? = some v) (fun i h => h.IsListIter s.heap.objs.size l i ∧ h.IsList l items) (fun b hb => ?_) (fun i v hv => ?_) (fun A' hA => ?_) ?_)
    · simp only [List.mem_cons, List.not_mem_nil, or_false] at hb
      rcases hb with rfl | rfl
      · exact .inl rfl
      · exact .inr hlt
    · exact SS.strs_at hx i v (by rw [Array.getElem?_toList]; exact hv)
    · have e : xs.length = items.size := by rw [← StrsAre.len_eq hx, Array.length_toList]
      rw [e]
      exact Walks.list hA _ l (Nat.ne_of_lt hlt2) items
    · exact ⟨⟨_, Heap.get?_push_size _ rfl, rfl, rfl⟩, hl2.push _⟩
end
def rSetN (K : PySem.W.Frag) (x : V) (H : Hp) (Q : VK) : Prop := (∃ l : List Nat, x = vS l ∧ l.length < 4000 ∧ Q (.int (ndc l.reverse : Nat)) H) ∨ (∃ (a : Addr) (ls : List (List Nat)), x = .ref a ∧ SqL K H a (ls.map vS) ∧ ls.length < 4000 ∧ Q (.int (ndc ls.reverse : Nat)) H)
def tLenSetS (K : PySem.W.Frag) (ta : TE) : TE := fun σ H Q => ta σ H fun x H1 => rSetN K x H1 Q
theorem ndc_map {α β : Type} [DecidableEq α] [DecidableEq β] (f : α → β) (hf : ∀ x y, f x = f y → x = y) : ∀ l : List α, ndc (l.map f) = ndc l
  | [] => rfl
  | x :: r => by
    rw [List.map_cons, ndc, ndc, ndc_map f hf r]
    have : f x ∈ r.map f ↔ x ∈ r := ⟨fun h => by
      obtain ⟨y, hy, e⟩ := List.mem_map.mp h
      rw [← hf _ _ e]; exact hy, fun h => List.mem_map_of_mem h⟩
    by_cases h : x ∈ r
    · rw [if_pos h, if_pos (this.mpr h)]
    · rw [if_neg h, if_neg fun z => h (this.mp z)]
theorem pe_lenSetS {X : Cx} {a : Expr} {ta : TE} {p p2 q pos : Pos} (hc : X.calm = true) (hg : Gl X "len") (hm : X.mg "len" = none) (hg2 : Gl X "set") (hm2 : X.mg "set" = none) (ha : PE X a ta)
    (na : starEach [a] X.env = (false, eval a X.env) :: starEach [] X.env := by rfl) : PE X (.Call (.Name "len" p) [.Call (.Name "set" p2) [a] [] q] [] pos) (tLenSetS X.K ta) := by
  refine ⟨fun pins s σ H Q I h => Call_ (ld_blt I hg hm boot_len ?_)⟩
  refine PyProof.Rows.callWith_builtin1 (PyProof.Rows.args_cons (Call_ (ld_blt I hg2 hm2 boot_set ?_)) rfl) rfl rfl
  refine PyProof.Rows.callWith_type1 (PyProof.Rows.args_cons (thn (ha.run pins s σ H _ I h) fun v s1 ⟨x, H1, I1, r1, q1⟩ => PyProof.Rows.args_nil ?_) na) na rfl
  have fin : ∀ (n : Nat) (xs : List Str), n < 4000 → ndc xs.reverse = n → Q (.int n) H1 → ∀ (h' : Heap) (tk : Nat), h'.SetOf (PySem.strKind X.prog X.w) s1.heap.objs.size (fun z => decide (z ∈ xs)) (ndc xs.reverse) → (∀ b o, s1.heap.get? b = some o → h'.get? b = some o) →
      wpAny (model X.prog X.w) X.A (spliced (backTo pos (starEach [] X.env))) (fun vs s₂ => wpAny (model X.prog X.w) X.A (call (.builtin "len") (Value.ref s1.heap.objs.size :: vs)) (EP X pins σ Q) X.xe s₂) X.xe { s1 with heap := h', toks := tk } := fun n xs hn en qn h' tk hS hk => by
    refine PyProof.Rows.args_nil ?_
    rw [en] at hS
    obtain ⟨o, es, ep, t, ho, hex, hd, _, _, _, hf, hz⟩ := hS
    have I2 : Inv X pins σ H1 { s1 with heap := h', toks := tk } := I1.kept hk
    exact call_len_set ho hex hd hf (by rw [hz]; omega) ⟨.int n, H1, I2.tok _, ⟨_, by rw [hz]⟩, qn⟩
  rcases q1 with ⟨l, rfl, hl, qq⟩ | ⟨b, ls, rfl, hq, hl, qq⟩
  · obtain ⟨u, rfl⟩ := r1
    have e1 : (S l).cps.toList = l := S_cps l
    have e2 : ndc ((S l).cps.toList.map fun c => (⟨#[c]⟩ : Str)).reverse = ndc l.reverse := by
      rw [e1, ← List.map_reverse]
      exact ndc_map _ (fun x y e => by simpa using e) _
    have hle := ndc_le l.reverse
    rw [List.length_reverse] at hle
    refine call_setS (I1.ok.hd hc) (src_str (S l) u) (by rw [e1, List.length_map]; exact hl) (fin (ndc l.reverse) _ (by omega) e2 qq)
  · obtain rfl : v = Value.ref b := r1
    obtain ⟨its, rv, pl, hz⟩ := I1.list hq
    have hst : StrsAre its (ls.map S) := strsAre_of (by rw [List.map_map]; exact rv)
    have e2 : ndc (ls.map S).reverse = ndc ls.reverse := by
      rw [← List.map_reverse]
      exact ndc_map _ (fun x y e => S_inj e) _
    have hle := ndc_le ls.reverse
    rw [List.length_reverse] at hle
    exact call_setS (I1.ok.hd hc) (src_list pl.isList (by simpa using hst)) (by rw [List.length_map]; exact hl) (fin (ndc ls.reverse) _ (by omega) e2 qq)
end WB
namespace WB
open PySem PySem.Spec PyProof.Rows L2
theorem eqV_S {a b : List Nat} : eqV (vS a) (vS b) = decide (a = b) := by
  show (S a == S b) = decide (a = b)
  rw [Bool.eq_iff_iff, beq_iff_eq, decide_eq_true_iff]
  exact ⟨S_inj, fun e => by rw [e]⟩
theorem inV_S {x : List Nat} {ls : List (List Nat)} : inV (vS x) (ls.map vS) = decide (x ∈ ls) := by
  unfold inV
  rw [List.any_map, Bool.eq_iff_iff, List.any_eq_true, decide_eq_true_iff]
  constructor
  · rintro ⟨y, hy, e⟩
    have e : eqV (vS y) (vS x) = true := e
    rw [eqV_S] at e
    rw [← of_decide_eq_true e]; exact hy
  · intro h
    exact ⟨x, h, by show eqV (vS x) (vS x) = true; rw [eqV_S]; simp⟩
theorem flat_S : ∀ ls : List (List Nat), (ls.map vS).all flatV = true
  | [] => rfl
  | x :: r => by rw [List.map_cons, List.all_cons, flat_S r]; rfl
section
variable {K : PySem.W.Frag} {H : Hp} {Q : VK} {E : XK}
theorem s_notInL {a : Addr} {x : List Nat} {ls : List (List Nat)} (h : SqL K H a (ls.map vS)) (k : Q (.bl (!decide (x ∈ ls))) H) : rIn K true (vS x) (.ref a) H Q := ⟨a, _, rfl, .inl h, rfl, flat_S ls, by rw [inV_S]; exact k⟩
theorem s_inL {a : Addr} {x : List Nat} {ls : List (List Nat)} (h : SqL K H a (ls.map vS)) (k : Q (.bl (decide (x ∈ ls))) H) : rIn K false (vS x) (.ref a) H Q := ⟨a, _, rfl, .inl h, rfl, flat_S ls, by rw [inV_S]; exact k⟩
theorem s_notInT {a : Addr} {x : List Nat} {ls : List (List Nat)} (h : SqT K H a (ls.map vS)) (k : Q (.bl (!decide (x ∈ ls))) H) : rIn K true (vS x) (.ref a) H Q := ⟨a, _, rfl, .inr h, rfl, flat_S ls, by rw [inV_S]; exact k⟩
theorem s_inT {a : Addr} {x : List Nat} {ls : List (List Nat)} (h : SqT K H a (ls.map vS)) (k : Q (.bl (decide (x ∈ ls))) H) : rIn K false (vS x) (.ref a) H Q := ⟨a, _, rfl, .inr h, rfl, flat_S ls, by rw [inV_S]; exact k⟩
theorem s_lenSet {ta : TE} {σ : St} (k : ta σ H fun x H1 => rSetN K x H1 Q) : tLenSetS K ta σ H Q := k
theorem s_setNS {l : List Nat} (hl : l.length < 4000) (k : Q (.int (ndc l.reverse : Nat)) H) : rSetN K (vS l) H Q := .inl ⟨l, rfl, hl, k⟩
end
end WB
namespace WB
open PySem PySem.Spec PyProof.Rows L2
def srt (ls : List (List Nat)) : List (List Nat) := ls.mergeSort fun a b => decide (a ≤ b)
theorem srt_perm (ls : List (List Nat)) : (srt ls).Perm ls := List.mergeSort_perm _ _
theorem srt_pair (ls : List (List Nat)) : (srt ls).Pairwise (· ≤ ·) := by
  have h := List.pairwise_mergeSort (le := fun a b : List Nat => decide (a ≤ b)) (fun a b c h1 h2 => decide_eq_true (List.le_trans (of_decide_eq_true h1) (of_decide_eq_true h2))) (fun a b => by
    rcases List.le_total a b with h | h
    · simp [h]
    · simp [h]) ls
  exact h.imp fun h => of_decide_eq_true h
theorem srt_unique {ys ls : List (List Nat)} (p : ys.Perm ls) (h : ys.Pairwise (· ≤ ·)) : ys = srt ls :=
  (p.trans (srt_perm ls).symm).eq_of_pairwise (fun a b _ _ h1 h2 => List.le_antisymm h1 h2) h (srt_pair ls)
theorem srt_len (ls : List (List Nat)) : (srt ls).length = ls.length := (srt_perm ls).length_eq
theorem rising_pair : ∀ (r : List (List Nat)) (x : List Nat), risingS (S x) (r.map S) = true → (x :: r).Pairwise (· ≤ ·)
  | [], x, _ => by simp
  | y :: r, x, h => by
    rw [List.map_cons, risingS, Bool.and_eq_true, S_cps, S_cps, ltCps_eq] at h
    have h1 : x ≤ y := by
      have : ¬ y < x := by simpa using h.1
      exact List.not_lt.mp this
    have h2 := rising_pair r y h.2
    refine List.pairwise_cons.mpr ⟨fun z hz => ?_, h2⟩
    rcases List.mem_cons.mp hz with rfl | hz
    · exact h1
    · exact List.le_trans h1 ((List.pairwise_cons.mp h2).1 z hz)
theorem sortedS_pair {ls : List (List Nat)} (h : sortedS (ls.map S) = true) : ls.Pairwise (· ≤ ·) := by
  cases ls with
  | nil => simp
  | cons x r => exact rising_pair r x h
theorem perm_S {ys : List Str} {ls : List (List Nat)} (p : ys.Perm (ls.map S)) : ∃ ms : List (List Nat), ys = ms.map S ∧ ms.Perm ls := by
  refine ⟨ys.map fun z => z.cps.toList, ?_, ?_⟩
  · rw [List.map_map]
    conv => lhs; rw [← List.map_id ys]
    exact List.map_congr_left fun z _ => S_of z
  · have h := p.map fun z : Str => z.cps.toList
    rw [List.map_map] at h
    have e : ls.map ((fun z : Str => z.cps.toList) ∘ S) = ls := by
      conv => rhs; rw [← List.map_id ls]
      exact List.map_congr_left fun z _ => S_cps z
    rw [e] at h
    exact h
theorem srt_S {ys : List Str} {ls : List (List Nat)} (p : ys.Perm (ls.map S)) (h : sortedS ys = true) : ys.map V.str = (srt ls).map vS := by
  obtain ⟨ms, rfl, pm⟩ := perm_S p
  rw [srt_unique pm (sortedS_pair h), List.map_map]
  rfl
def SrcV (K : PySem.W.Frag) (H : Hp) (x : V) (ls : List (List Nat)) : Prop := (∃ l : List Nat, x = vS l ∧ ls = l.map fun c => [c]) ∨ (∃ a, x = .ref a ∧ (SqL K H a (ls.map vS) ∨ SqT K H a (ls.map vS)))
def rSrt (K : PySem.W.Frag) : List V → Hp → VK → Prop := fun xs H Q => ∃ (x : V) (ls : List (List Nat)), xs = [x] ∧ SrcV K H x ls ∧ ls.length < 64 ∧ ∀ p, H p = none → Q (.ref p) (upd H p (.lst ((srt ls).map vS)))
section
variable {X : Cx}
theorem collect_src {pins : List (Addr × Obj)} {σ : L2.St} {H : Hp} {s : Shared} {A : Around} {E : Value → Shared → Prop} {x : V} {v : Value} {ls : List (List Nat)} {R : List Value → Shared → Prop} (I : Inv X pins σ H s) (hh : A.handled = none) (rx : RelV x v) (hs : SrcV X.K H x ls) (h64 : ls.length < 64)
    (h : ∀ (h' : Heap) (tk : Nat) (its : List Value), (∀ b o, s.heap.get? b = some o → h'.get? b = some o) → StrsAre its (ls.map S) → R its { s with heap := h', toks := tk }) : wpAny (model X.prog X.w) A (collect v) R E s := by
  rcases hs with ⟨l, rfl, rfl⟩ | ⟨a, rfl, hq | hq⟩
  · obtain ⟨t, rfl⟩ := rx
    have hz : (S l).cps.size = l.length := by simp [S]
    rw [List.length_map] at h64
    refine wpAny_collect_str hh (S l) t (fun s' acc k g d os hi => ?_) (by rw [hz, sizeLine_eq]; omega)
    obtain ⟨h', g', d', t', o'⟩ := s'
    cases g
    cases d
    cases os
    refine h h' t' acc.toList k (L2.strs_at (by rw [Array.length_toList, hi.1, List.length_map, List.length_map, hz]) fun j v e => ?_)
    obtain ⟨c, u, hc, ev⟩ := hi.2 j v (by rw [← Array.getElem?_toList]; exact e)
    have hc : l[j]? = some c := by simpa [S] using hc
    exact ⟨S [c], u, by rw [List.getElem?_map, List.getElem?_map, hc]; rfl, ev⟩
  · obtain rfl : v = Value.ref a := rx
    obtain ⟨its, rv, pl, hz⟩ := I.list hq
    obtain ⟨o, ho, hc, n, hd⟩ := pl.isList
    have hst : StrsAre its (ls.map S) := strsAre_of (by rw [List.map_map]; exact rv)
    have e : its.toArray.size = ls.length := by rw [List.size_toArray, ← rv.length, List.length_map]
    exact wpAny_collect_seq a (.inl rfl) ho hc hd (fun h' k => h h' s.toks _ k (by simpa using hst)) (by rw [e, sizeLine_eq]; omega)
  · obtain rfl : v = Value.ref a := rx
    obtain ⟨its, rv, ⟨o, ho, hc, n, hd⟩, hz⟩ := I.tuple hq
    have hst : StrsAre its (ls.map S) := strsAre_of (by rw [List.map_map]; exact rv)
    have e : its.toArray.size = ls.length := by rw [List.size_toArray, ← rv.length, List.length_map]
    exact wpAny_collect_seq a (.inr rfl) ho hc hd (fun h' k => h h' s.toks _ k (by simpa using hst)) (by rw [e, sizeLine_eq]; omega)
theorem cr_srt (hcalm : X.calm = true) : CallR X (.builtin "sorted") (rSrt X.K) := by
  intro pins s σ H xs us Q I r q
  obtain ⟨x, ls, rfl, hs, h64, q⟩ := q
  obtain ⟨u, rfl, rx⟩ := vals1 r
  refine Calls.call_function_entry PyProof.Rows.kind_sorted PyProof.Rows.plain_sorted PyProof.Rows.entry_sorted (PyProof.Rows.args_sorted1 _) ?_
  unfold Builtin.«sorted»
  refine wpAny_bind (m := checkCount "sorted" 1 1 _) (wpAny_pure (wpAny_bind (collect_src (A := X.A.in1) I (I.ok.hd hcalm) rx hs h64 fun h' tk its hk hS => ?_)))
  have hal : its.length = ls.length := by rw [StrsAre.len_eq hS, List.length_map]
  have I1 : Inv X pins σ H { s with heap := h', toks := tk } := I.kept hk
  refine wpAny_bind (wpAny_newList ?_ (by rw [hal, sizeLine_eq]; omega))
  have hoL : (h'.push (seqObj "list" its.toArray 0)).get? h'.objs.size = some (seqObj "list" its.toArray 0) := Heap.get?_push_size _ rfl
  show wpAny _ _ _ _ _ { s with heap := h'.push (seqObj "list" its.toArray 0), toks := tk }
  refine wpAny_bind (wpAny_holding (wpAny_call_entry PyProof.Rows.slot_list_sort ⟨_, hoL, rfl⟩ PyProof.Rows.entry_list_sort (list_sort_treeK strKind_oneLt (s := { s with heap := h'.push (seqObj "list" its.toArray 0), toks := tk }) hoL hS.keysOf (fun v₁ v₂ rest e => keyKind_strs (by rw [← e]; exact hS)) (by rw [hal]; exact h64)
    fun st' hp hs => ⟨_, rfl, ?_⟩) (PyProof.Rows.args_list_sort _)))
  obtain ⟨ys, g1, g2, g3⟩ := sorted_out_str hS hp hs
  obtain ⟨e', he'⟩ := PyProof.Rows.sortedHeap_at (vs := its) (out := (arrOf st').map (·.2)) hoL
  have ey := srt_S g2 g3
  have hlen : (ys.map V.str).length ≤ sizeLine := by
    rw [ey, List.length_map, srt_len]
    exact Nat.le_trans (Nat.le_of_lt h64) (by decide)
  have q1 := q _ (I1.hok.fresh (Nat.le_refl h'.objs.size))
  rw [← ey] at q1
  refine wpAny_pure ⟨_, rfl, .ref h'.objs.size, upd H h'.objs.size (.lst (ys.map V.str)), I1.laid (t' := tk) (fun b o e => ?_) (Nat.le_refl _) (show ObjOk X.prog X.w _ _ _ (.lst (ys.map V.str)) from ⟨hlen, ((arrOf st').map (·.2)).toList, e', vals_of_strs g1, by rw [Array.toArray_toList]; exact he'⟩), rfl, q1⟩
  have hb : b < h'.objs.size := Heap.lt_size e
  rw [PyProof.Rows.sortedHeap_old (Nat.ne_of_lt hb) (by rw [size_push']; exact Nat.lt_succ_of_lt hb)]
  exact Heap.get?_push_of_some _ e
end
section
variable {K : PySem.W.Frag} {H : Hp} {Q : VK}
theorem s_srtS {l : List Nat} (h : l.length < 64) (k : ∀ p H2, H p = none → Ex [] H H2 → H2 p = some (.lst ((srt (l.map fun c => [c])).map vS)) → Q (.ref p) H2) : rSrt K [vS l] H Q := ⟨_, _, rfl, .inl ⟨l, rfl, rfl⟩, by rw [List.length_map]; exact h, s_new k⟩
end
end WB
namespace WB
open PySem PySem.Spec PyProof.Rows L2
section
variable {prog : Program} {w : World} {A : Around} {E : Value → Shared → Prop} {s : Shared}
abbrev tupIt (l : Addr) : Obj := { cls := .type "tuple_iterator", data := .fields #[.ref l, .int 0 0] }
abbrev enumO (it : Addr) : Obj := { cls := .type "enumerate", data := .fields #[.none, .bool false, .ref it, rawInt 0, .none, .none] }
theorem meets_enumT (l : Addr) (items : Array Value) (n : Nat) (dct : Option Addr) (sl : Array (Option Value)) :
    Meets (Builtin.«enumerate.__new__» ⟨[.type "enumerate", .ref l], []⟩) (fun _ R s => s.heap.get? l = some { cls := .type "tuple", dict := dct, data := .seq items n, slots := sl } ∧
      R (.ok (.ret (.ref (s.heap.push (tupIt l)).objs.size))) { s with heap := (s.heap.push (tupIt l)).push (enumO s.heap.objs.size) }) :=
  .of_wp fun prog w A R s h => by
    obtain ⟨hp, g, d, tk, os⟩ := s
    obtain ⟨hl, h⟩ := h
    have f1 := sub_enumerate
    have hL : Heap.IsTuple (Shared.heap ⟨hp, g, d, tk, os⟩) l items := ⟨_, hl, rfl, n, rfl⟩
    wp_walk using wpAny_loadPart' hl
    refine wpAny_stack_any fun st => wpAny_pure ?_
    split
    · rename_i c _ _ _ _ _
      cases (c == Value.type "enumerate")
      · wp_walk using wpAny_loadPart' hl, wpAny_pyIter_tuple hL
        exact ⟨_, rfl, h⟩
      · wp_walk using wpAny_loadPart' hl, wpAny_pyIter_tuple hL
        exact ⟨_, rfl, h⟩
    · wp_walk using wpAny_loadPart' hl, wpAny_pyIter_tuple hL
      exact ⟨_, rfl, h⟩
theorem call_enumT {l : Addr} {items : Array Value} {Q : Value → Shared → Prop} (hL : s.heap.IsTuple l items)
    (h : ∀ h', IsEnum h' (s.heap.objs.size + 1) s.heap.objs.size 0 .none → h'.IsTupleIter s.heap.objs.size l 0 → (∀ b o, s.heap.get? b = some o → h'.get? b = some o) → Q (.ref (s.heap.objs.size + 1)) { s with heap := h' }) :
    wpAny (model prog w) A (call (.type "enumerate") [.ref l]) Q E s := by
  obtain ⟨⟨c, dct, dt, sl⟩, hl, hc, n, hd⟩ := hL
  replace hc : c = .type "tuple" := hc
  replace hd : dt = .seq items n := hd
  subst hc hd
  refine callType_new F.called_enumerate (by decide) (F.typeCall_enumerate_1 _) (F.newCall_enumerate_1 _) (fun o => F.args_object_init_2 o _) F.entry_enumerate_new (meets_enumT l items n dct sl) ⟨hl, ?_⟩
  have hz : (s.heap.push (tupIt l)).objs.size = s.heap.objs.size + 1 := Heap.size_push ..
  show _ ∧ _
  rw [hz]
  have he : IsEnum ((s.heap.push (tupIt l)).push (enumO s.heap.objs.size)) (s.heap.objs.size + 1) s.heap.objs.size 0 .none := by
    have := Heap.get?_push_size (s.heap.push (tupIt l)) (o := enumO s.heap.objs.size) rfl
    rw [hz] at this
    exact this
  exact ⟨⟨_, he, rfl⟩, h _ he ⟨_, Heap.get?_push_of_some _ (Heap.get?_push_size _ rfl), rfl, rfl⟩ fun b o x => Heap.get?_push_of_some _ (Heap.get?_push_of_some _ x)⟩
theorem enum_endT {e it l : Addr} {i : Nat} {items : Array Value} {old : Value} {Q : Option Value → Shared → Prop} (hh : A.handled = none) (he : IsEnum s.heap e it i old) (hit : s.heap.IsTupleIter it l i) (hl : s.heap.IsTuple l items) (hx : items[i]? = none)
    (k : ∀ h', Heap.ExtBut it s.heap h' → Q none { s with heap := h' }) : wpAny (model prog w) A (pyNext (.ref e)) Q E s := by
  have T : s.TypeIs (.ref e) "enumerate" := ⟨_, he, rfl⟩
  unfold pyNext
  refine wpAny_bind (wpAny_attempt (wpAny_callSpecial?_slot (name := Str.ofString "__next__") T F.slot_enumerate_next (wpAny_call_entry F.slot_enumerate_next T F.entry_enumerate_next ?_ (F.args_enumerate_next_1 _))))
  show wpAny _ _ (field (.ref e) 2 >>= _) _ _ _
  refine wpAny_bind (wpAny_field he rfl (x := .ref it) rfl (wpAny_bind (wpAny_nextOf_tuple_end hh hit hl hx fun h' x x1 x2 => ?_)))
  obtain ⟨o, ho, hc⟩ := x2
  exact wpAny_bind (wpAny_isInstance (T := "StopIteration") (b := true) ⟨o, ho, hc⟩ isSubtype_stop (wpAny_pure (k _ x1)))
end
def IteT (K : PySem.W.Frag) (a : Addr) : It :=
  ⟨fun i H => ∃ (xs : List V) (x : V), SqT K H a xs ∧ xs[i]? = some x, fun i H v H' => ∃ T x, v = .ref T ∧ H T = none ∧ H' = upd H T (.tup [.int (i : Nat), x]) ∧ ∀ xs, SqT K H a xs → xs[i]? = some x, fun i H => ∃ xs : List V, SqT K H a xs ∧ xs.length ≤ i⟩
theorem turn_enumT {P : Program} {w : World} {K : PySem.W.Frag} {elts : List Expr} {kk : Nat} {tpos : Pos} (a e it : Addr) :
    Turn P w K (.Tuple elts kk tpos) (IteT K a) [e, it] e (fun i h => (∃ old, IsEnum h e it ((i : Nat) : Int) old) ∧ h.IsTupleIter it a i ∧ e ≠ it ∧ a ≠ it ∧ e ≠ a) where
  mem := by simp
  obj := fun i h st b hb => by
    obtain ⟨⟨old, he⟩, ⟨o, ho, hc, hd⟩, _⟩ := st
    have e' : b = e ∨ b = it := by simpa using hb
    rcases e' with z | z
    · rw [z]; exact ⟨_, he, fun v q => nomatch q⟩
    · rw [z]; exact ⟨o, ho, fun v q => by rw [hd] at q; cases q⟩
  keep := fun i h h' st k => let ⟨⟨old, he⟩, hi, r⟩ := st; ⟨⟨old, k e (by simp) _ he⟩, hi.at fun o q => k it (by simp) o q, r⟩
  item := by
    intro X hP hw hK hc i pins s σ H E I hf st hg
    subst hP hw hK
    obtain ⟨⟨old, he⟩, hit, ne1, ne2, ne3⟩ := st
    obtain ⟨xs, x, hq, hx⟩ := hg
    obtain ⟨its, rv, p, hz⟩ := I.tuple hq
    obtain ⟨u, hu, ru⟩ := rv.get hx
    have hel : e < s.heap.objs.size := Heap.lt_size he
    have hil : it < s.heap.objs.size := by obtain ⟨_, q, _⟩ := hit; exact Heap.lt_size q
    have lt : i < its.toArray.size := by
      have := (List.getElem?_eq_some_iff.mp hu).1
      simpa using this
    refine wpAny_pyNext_enum_itemD (Draws.tuple (by simp [I.ok.hd hc]) it a ne2 its.toArray) he ⟨hit, p⟩ lt ne1 (by simp only [List.mem_cons, List.not_mem_nil, or_false, not_or]; exact ⟨ne1, ne3⟩) fun v h' tk hv ho hit' hT hsz hk => ?_
    have hv : its.toArray[i]? = some v := hv
    have ev : v = u := by
      have h2 : its.toArray[i]? = some u := by simpa using hu
      rw [h2] at hv
      exact (Option.some.inj hv).symm
    subst ev
    refine ⟨_, rfl, wpAny_letOwnedTupleGo_enum (s := { s with heap := h', toks := tk + 1 }) ho fun h'' he' sb => ?_⟩
    have hT2 : h''.get? s.heap.objs.size = some { cls := .type "tuple", data := .seq #[.int i tk, v] } := (sb.2 _ (Nat.ne_of_gt hel)).trans hT
    have new : ObjOk X.prog X.w (upd H s.heap.objs.size (.tup [.int (i : Nat), x])) h'' s.heap.objs.size (.tup [.int (i : Nat), x]) := ⟨by show 2 ≤ sizeLine; decide, [.int i tk, v], .cons ⟨_, rfl⟩ (.cons ru .nil), ⟨_, hT2, rfl, _, rfl⟩⟩
    have I1 : Inv X pins σ (upd H s.heap.objs.size (.tup [.int (i : Nat), x])) { s with heap := h'', toks := tk + 1 } :=
      I.turnedNew (ch := [e, it]) (fun b ob hb q => (sb.2 b (fun z => hb (by simp [z]))).trans (hk b ob (fun z => hb (by simp [z])) (fun z => hb (by simp [z])) q)) hf (Nat.le_refl _) new
    refine ⟨.ref s.heap.objs.size, _, I1, rfl, ⟨_, x, rfl, I.hok.fresh (Nat.le_refl _), rfl, fun ys hy => by rw [I.tuple_inj hy hq]; exact hx⟩, ⟨⟨v, ?_⟩, hit'.1.at fun o q => (sb.2 it (Ne.symm ne1)).trans q, ne1, ne2, ne3⟩, fun b hb => ?_⟩
    · have e1 : ((i + 1 : Nat) : Int) = (i : Int) + 1 := by omega
      rw [e1]; exact he'
    · have hb' : b < s.heap.objs.size := by
        have e' : b = e ∨ b = it := by simpa using hb
        rcases e' with z | z
        · rw [z]; exact hel
        · rw [z]; exact hil
      rw [upd_ne (Nat.ne_of_lt hb')]
      exact (hf b hb).1
  done := by
    intro X hP hw hK hc i pins s σ H E I hf st hg
    subst hP hw hK
    obtain ⟨⟨old, he⟩, hit, ne1, ne2, ne3⟩ := st
    obtain ⟨xs, hq, hx⟩ := hg
    obtain ⟨its, rv, p, hz⟩ := I.tuple hq
    obtain ⟨f0, f1, f2, f3, f4, f5⟩ := hf it (by simp)
    have hl := rv.length
    refine enum_endT (I.ok.hd hc) he hit p (by simp; omega) fun h' eb => ⟨rfl, I.turned (t' := s.toks) (fun b o hb q => eb b o hb q) f0 f1 f3 f4 f5⟩
  self := fun A i s Q E st h => let ⟨⟨_, he⟩, _⟩ := st; wpAny_pyIter_enum he h
def iEnumT (K : PySem.W.Frag) (ta : TA) : TI := fun σ H R => ta σ H fun vs H1 => ∃ a xs, vs = [.ref a] ∧ SqT K H1 a xs ∧ R (IteT K a) H1
theorem pi_enumT {X : Cx} {e : Expr} {ta : TA} {p pos tpos : Pos} {elts : List Expr} {kk : Nat} (hg : Gl X "enumerate") (hm : X.mg "enumerate" = none) (ha : PA X [e] ta) (hs : starEach [e] X.env = [(false, eval e X.env)] := by rfl) :
    PI X (.Tuple elts kk tpos) (.Call (.Name "enumerate" p) [e] [] pos) (iEnumT X.K ta) := by
  refine ⟨fun pins s σ H R I h => Call_ (ld_blt I hg hm boot_enumerate (PyProof.Rows.callWith_type1 (thn (ha.run pos pins s σ H _ I h) fun us s1 ⟨vs, H1, I1, r1, q1⟩ => ?_) hs rfl))⟩
  obtain ⟨a, xs, rfl, hq, q⟩ := q1
  obtain ⟨u, rfl, ru⟩ := vals1 r1
  cases ru
  obtain ⟨its, rv, p', hz⟩ := I1.tuple hq
  have lt : a < s1.heap.objs.size := by obtain ⟨o, ho, _⟩ := p'; exact Heap.lt_size ho
  refine call_enumT p' fun h' he hit hk => wpAny_pyIter_enum he ?_
  have I2 : Inv X pins σ H1 { s1 with heap := h' } := I1.kept (t' := s1.toks) hk
  refine ⟨s1.heap.objs.size + 1, [s1.heap.objs.size + 1, s1.heap.objs.size], _, _, H1, rfl, I2, turn_enumT a (s1.heap.objs.size + 1) s1.heap.objs.size, ⟨⟨.none, he⟩, hit, Nat.succ_ne_self _, Nat.ne_of_lt lt, Nat.ne_of_gt (Nat.lt_succ_of_lt lt)⟩, fun b hb => ?_, q⟩
  have e' : b = s1.heap.objs.size + 1 ∨ b = s1.heap.objs.size := by simpa using hb
  have hle : s1.heap.objs.size ≤ b := by
    rcases e' with z | z
    · rw [z]; exact Nat.le_succ _
    · rw [z]; exact Nat.le_refl _
  exact I1.fpOk hle (I1.hok.fresh hle)
theorem walk_enumT {K : PySem.W.Frag} {a : Addr} {xs : List V} : Walk (IteT K a) xs.length (fun H => SqT K H a xs) (YPair (fun i => some (.int (i : Nat))) (fun i => xs[i]?)) := by
  refine ⟨fun i _ hi q => ⟨xs, xs[i], q, by simp [hi]⟩, fun _ q => ⟨xs, q, Nat.le_refl _⟩, fun i H v H' _ q y => ?_⟩
  obtain ⟨T, x, h1, h2, h3, h4⟩ := y
  exact ⟨T, .int (i : Nat), x, h1, h2, h3, rfl, h4 xs q⟩
theorem s_enumT {K : PySem.W.Frag} {ta : TA} {σ : L2.St} {H : Hp} {R : It → Hp → Prop} (k : ta σ H fun vs H1 => ∃ a xs, vs = [.ref a] ∧ SqT K H1 a xs ∧ R (IteT K a) H1) : iEnumT K ta σ H R := k
theorem s_enumTA {K : PySem.W.Frag} {a : Addr} {xs : List V} {H : Hp} {C : Addr → Prop} (h : SqT K H a xs) (k : C a) : ∃ b ys, [V.ref a] = [V.ref b] ∧ SqT K H b ys ∧ C b := ⟨a, xs, rfl, h, k⟩
end WB
namespace WB
open PySem PySem.Spec PyProof.Rows L2
def sgn (s : List Nat) : List Nat := (srt (s.map fun c => [c])).flatten
def goodS (s : List Nat) : Prop := isWord s LET = true ∧ s.length ≤ 4 ∧ s.Nodup
structure KindK (K : PySem.W.Frag) : Prop where
  cl : Cls K (He.ga K "Kind")
  na1 : NoAttr K (He.ga K "Kind") "letters"
  na2 : NoAttr K (He.ga K "Kind") "allowed"
  ty : ∀ (H : Hp) (a dx : Addr) (fs : List (Str × V)), H a = some (.ins (He.ga K "Kind") dx fs) → TyX K H (.ref a) (.ref (He.ga K "Kind"))
  me : PySem.W.kitOne K (.ref (He.ga K "Kind")) (.ref (He.ga K "Kind")) = some true
  no : ∀ n ∈ KD, PySem.W.kitOne K (.type n) (.ref (He.ga K "Kind")) = some false
  nr : PySem.W.kitOne K (.ref (He.ga K "Kind")) (.ref (He.ga K "Ring")) = some false
  rn : PySem.W.kitOne K (.ref (He.ga K "Ring")) (.ref (He.ga K "Kind")) = some false
def KindAt (K : PySem.W.Frag) (H : Hp) (a : Addr) (l : List Nat) (ps : List (List Nat)) : Prop := ∃ dx t, H a = some (.ins (He.ga K "Kind") dx [("letters", vS l), ("allowed", .ref t)]) ∧ SqT K H t (ps.map vS)
section
variable {K : PySem.W.Frag} {H H' : Hp} {a p : Addr} {l : List Nat} {ps : List (List Nat)} {Q : VK} {E : XK}
theorem KindAt.ex0 (e : Ex [] H H') (h : KindAt K H a l ps) : KindAt K H' a l ps := by
  obtain ⟨dx, t, h1, h2⟩ := h
  exact ⟨dx, t, e a _ (by simp) h1, e.sqT (by simp) h2⟩
theorem sqT_pool {t : Addr} {xs : List V} (hp : PoolAt H p) (e : Ex [p] H H') (h : SqT K H t xs) : SqT K H' t xs := by
  obtain ⟨x, y, z, hp⟩ := hp
  rcases h with (h | ⟨o, h⟩) | h
  · exact e.sqT (by simp only [List.mem_singleton]; intro w; rw [w, hp] at h; cases h) (.inl (.inl h))
  · exact e.sqT (by simp only [List.mem_singleton]; intro w; rw [w, hp] at h; cases h) (.inl (.inr ⟨o, h⟩))
  · exact .inr h
theorem KindAt.exP (hp : PoolAt H p) (e : Ex [p] H H') (h : KindAt K H a l ps) : KindAt K H' a l ps := by
  obtain ⟨dx, t, h1, h2⟩ := h
  refine ⟨dx, t, e a _ ?_ h1, sqT_pool hp e h2⟩
  obtain ⟨x, y, z, hp⟩ := hp
  simp only [List.mem_singleton]
  intro w
  rw [w, hp] at h1
  cases h1
def sp_check_signs (K : PySem.W.Frag) : Sp := fun vs H Q _ => ∃ s : List Nat, vs = [vS s] ∧ goodS s ∧ ∀ H', Ex [] H H' → Q .non H'
theorem u_check_signs {s : List Nat} (h : goodS s) (k : ∀ H', Ex [] H H' → Q .non H') : sp_check_signs K ([vS s] ++ []) H Q E := ⟨_, rfl, h, k⟩
def rTupOf (K : PySem.W.Frag) : List V → Hp → VK → Prop := fun xs H Q => ∃ p ys, xs = [.ref p] ∧ ((SqL K H p ys ∧ ∀ l, H l = none → Q (.ref l) (upd H l (.tup ys))) ∨ (SqT K H p ys ∧ Q (.ref p) H))
theorem s_tupOf {b : Addr} {xs : List V} (h : SqL K H b xs) (k : ∀ q H2, H q = none → Ex [] H H2 → H2 q = some (.tup xs) → Q (.ref q) H2) : rTupOf K [.ref b] H Q := ⟨b, xs, rfl, .inl ⟨h, s_new k⟩⟩
theorem s_notN {v : V} (k : Q (.bl (!decide (v = .non))) H) : rNotN1 v .non H Q := ⟨rfl, k⟩
theorem s_isN {v : V} (k : Q (.bl (decide (v = .non))) H) : rIsN1 v .non H Q := ⟨rfl, k⟩
theorem s_listOfL {b : Addr} {xs : List V} (h : SqL K H b xs) (k : ∀ q H2, H q = none → Ex [] H H2 → H2 q = some (.lst xs) → Q (.ref q) H2) : rListOf K [.ref b] H Q := ⟨b, xs, rfl, .inl h, s_new k⟩
end
end WB
namespace WB
open PySem PySem.Spec PyProof.Rows L2
def Lc2W (J : It) (g : TG) (tt : TT) (wi1 : TI) (g1 : TG) (tt1 : TT) (te : TE) (vs vs1 : List Nat) (σ : St) (H1 : Hp) (Q : VK) : Prop := ∀ D, H1 D = none → ∃ W : Nat → Nat → Hp → Prop, (∃ m, W 0 m (upd H1 D (.lst []))) ∧ ∀ i m H, W i m H →
  (J.stop i H ∧ Q (.ref D) H) ∨ (J.go i H ∧ ∃ Nx : Hp → Prop, (∀ H', Nx H' → ∃ m', m' < m ∧ W (i + 1) m' H') ∧ ∀ x H', J.yld i H x H' → g x (wipe σ vs) H' fun σ2 H2 => wipe σ2 vs = wipe σ vs ∧ tt σ2 H2 fun b H3 =>
    if b = true then wi1 σ2 H3 fun J1 H4 => ∃ W1 : Nat → Nat → Hp → Prop, (∃ m, W1 0 m H4) ∧ ∀ j k H, W1 j k H →
      (J1.stop j H ∧ Nx H) ∨ (J1.go j H ∧ ∃ Nx1 : Hp → Prop, (∀ H', Nx1 H' → ∃ k', k' < k ∧ W1 (j + 1) k' H') ∧ ∀ x H', J1.yld j H x H' → g1 x (wipe σ2 vs1) H' fun σ3 H5 => wipe σ3 vs1 = wipe σ2 vs1 ∧ tt1 σ3 H5 fun b H6 =>
        if b = true then te σ3 H6 fun y H7 => ∃ acc, H7 D = some (.lst acc) ∧ acc.length < sizeLine ∧ Nx1 (upd H7 D (.lst (acc ++ [y]))) else Nx1 H6)
    else Nx H3)
theorem s_lc2 {wi wi1 : TI} {g g1 : TG} {tt tt1 : TT} {te : TE} {vs vs1 : List Nat} {σ : St} {H : Hp} {Q : VK} (k : wi σ H fun J H1 => Lc2W J g tt wi1 g1 tt1 te vs vs1 σ H1 Q) : tLc2 wi g tt wi1 g1 tt1 te vs vs1 σ H Q := k
section
variable {K : PySem.W.Frag} {H : Hp} {Q : VK} {E : XK}
theorem lc_subL {a b : Addr} {ls : List (List Nat)} {j : Nat} {tt : TT} {σ : St} (hq : H b = some (.lst (ls.map vS))) (hb : b ≠ a) (hj : j < σ.length) (hn : ls.length ≤ 100000) (hp : PoolAt H a)
    (h : ∀ (x : List Nat) (H1 : Hp) (R : Bool → Hp → Prop), x ∈ ls → Ex [a] H H1 → PoolAt H1 a → (∀ c H2, Ex [a] H1 H2 → PoolAt H2 a → R c H2) → tt ((wipe σ [j]).set j (some (vS x))) H1 R)
    (k : ∀ D H' (ms : List (List Nat)), H D = none → Ex [a] H H' → PoolAt H' a → ms.Sublist ls → H' D = some (.lst (ms.map vS)) → Q (.ref D) H') : LcW (Itl K b) (gName j) tt (tVar j) [j] σ H Q := by
  refine lc_run (walk_list (xs := ls.map vS)) (by rw [List.length_map]; exact hn) [a] (fun H1 => PoolAt H1 a) (fun i acc _ => ∃ ms : List (List Nat), acc = ms.map vS ∧ ms.Sublist (ls.take i)) (fun z hz => by rw [List.mem_singleton.mp hz]; exact hp.there) hp ⟨[], rfl, by simp⟩ (fun H1 D o nD r => r.upd nD) (fun _ _ _ _ _ _ h => h) (fun H1 e => SqL.of (e b _ (by simpa using hb) hq)) ?_ ?_
  · rintro i acc x H1 H2 C1 C0 hi e r ⟨ms, rfl, hms⟩ ⟨rfl, hx⟩ k1 k0
    rw [List.length_map] at hi
    rw [List.getElem?_map, List.getElem?_eq_getElem hi] at hx
    cases hx
    refine ⟨wipe1 _ _ _, ?_⟩
    refine h ls[i] _ _ (List.getElem_mem hi) e r fun c H3 e3 r3 => ?_
    have hsub : (ls.take i).Sublist (ls.take (i + 1)) := by rw [List.take_add_one]; exact List.sublist_append_left _ _
    refine s_2 (fun _ => ?_) (fun _ => ?_)
    · refine ⟨vS ls[i], ?_, k1 _ _ e3 r3 ⟨ms ++ [ls[i]], by simp, ?_⟩⟩
      · show ((σ.set j none).set j (some (vS ls[i])))[j]? = _
        rw [List.set_set, List.getElem?_set_self hj]
      · rw [List.take_add_one, List.getElem?_eq_getElem hi]
        exact hms.append (List.Sublist.refl _)
    · exact k0 _ e3 r3 ⟨ms, rfl, hms.trans hsub⟩
  · rintro D H' ys hD e r hd _ ⟨ms, rfl, hms⟩
    rw [List.length_map, List.take_length] at hms
    exact k D H' ms hD e r hms hd
theorem s_slA {a : Addr} {xs : List V} {lo hi : Option Int} (h : SqT K H a xs) (k : ∀ q H2, Ex [] H H2 → SqT K H2 q (cutV xs lo hi) → Q (.ref q) H2) : rSlA K (.ref a) lo hi H Q := by
  refine ⟨a, xs, rfl, h, fun hw => ?_, fun _ p hp => k p _ (Ex.new hp) (SqT.of upd_same)⟩
  have e : cutV xs lo hi = xs := by
    unfold cutV
    rw [hw.1, hw.2]
    simp
  have := k a H Ex.rfl
  rw [e] at this
  exact this h
theorem cutV_to {xs : List V} {n : Int} (h0 : 0 ≤ n) : cutV xs none (some n) = xs.take n.toNat := by
  unfold cutV
  have e : HT.sIx xs.length xs.length (some n) = min n.toNat xs.length := by
    show (if n < 0 then (n + (xs.length : Int)).toNat else min n.toNat xs.length) = _
    rw [if_neg (by omega)]
  have e2 : HT.sIx xs.length 0 none = 0 := rfl
  rw [e, e2]
  rcases Nat.le_total n.toNat xs.length with h | h
  · rw [Nat.min_eq_left h]; simp
  · rw [Nat.min_eq_right h, List.take_of_length_le h]; simp
theorem u_is_wordF {l s : List Nat} (hl : l.length ≤ 10000) (k : ∀ H', Ex [] H H' → Q (.bl (isWord l s)) H') : sp_is_word K ([vS l, vS s] ++ []) H Q E := ⟨_, _, rfl, .inl ⟨l, rfl, hl, k⟩⟩
end
theorem erase_perm {α : Type} : ∀ {l : List α} {i : Nat} (h : i < l.length), (l[i] :: l.eraseIdx i).Perm l
  | x :: l, 0, _ => List.Perm.refl _
  | x :: l, i + 1, h => by
    have h2 : i < l.length := by simpa using h
    show (l[i] :: x :: l.eraseIdx i).Perm (x :: l)
    exact (List.Perm.swap _ _ _).trans (List.Perm.cons x (erase_perm h2))
theorem flat_len1 {s : List Nat} : (srt (s.map fun c => [c])).flatten.length = s.length := by
  rw [(srt_perm (s.map fun c => [c])).flatten.length_eq, flat1]
end WB
namespace WB
open PySem PySem.Spec PyProof.Rows L2
def sTuple : List Nat := [116, 117, 112, 108, 101]
def sList : List Nat := [108, 105, 115, 116]
def sTruth : List Nat := [116, 114, 117, 116, 104]
def sPlain : List Nat := [112, 108, 97, 105, 110]
def Scal (v : V) (d : PyData) : Prop := (v = .non ∧ d = .none) ∨ (∃ b, v = .bl b ∧ d = .bool b) ∨ (∃ i, v = .int i ∧ d = .int i) ∨ (∃ l, plain l ∧ v = vS l ∧ d = dS l)
def Dd (K : PySem.W.Frag) (H : Hp) : Nat → V → PyData → Prop
  | 0, v, d => Scal v d
  | n + 1, v, d => Scal v d ∨ (∃ a xs ds, v = .ref a ∧ d = .tuple ds ∧ SqT K H a xs ∧ xs.length ≤ 1000 ∧ ds.length = xs.length ∧ ∀ (i : Nat) x e, xs[i]? = some x → ds[i]? = some e → Dd K H n x e) ∨
    (∃ a xs ds, v = .ref a ∧ d = .list ds ∧ H a = some (.lst xs) ∧ xs.length ≤ 1000 ∧ ds.length = xs.length ∧ ∀ (i : Nat) x e, xs[i]? = some x → ds[i]? = some e → Dd K H n x e)
def Fr (F : Addr → Prop) (H : Hp) : Nat → V → PyData → Prop
  | 0, v, d => Scal v d
  | n + 1, v, d => Scal v d ∨ (∃ a xs ds, v = .ref a ∧ d = .list ds ∧ F a ∧ H a = some (.lst xs) ∧ ds.length = xs.length ∧ ∀ (i : Nat) x e, xs[i]? = some x → ds[i]? = some e → Fr F H n x e)
theorem Scal.dp {K : PySem.W.Frag} {H : Hp} {v : V} {d : PyData} (h : Scal v d) : Dp K H v d := by
  rcases h with ⟨rfl, rfl⟩ | ⟨b, rfl, rfl⟩ | ⟨i, rfl, rfl⟩ | ⟨l, _, rfl, rfl⟩
  · exact .non
  · exact .bl b
  · exact .int i
  · exact .str _
theorem dpAll_of {K : PySem.W.Frag} {H : Hp} : ∀ (xs : List V) (ds : List PyData), ds.length = xs.length → (∀ (i : Nat) x e, xs[i]? = some x → ds[i]? = some e → Dp K H x e) → DpAll K H xs ds
  | [], [], _, _ => .nil
  | x :: xs, d :: ds, hl, h => .cons (h 0 x d rfl rfl) (dpAll_of xs ds (by simpa using hl) fun i y e h1 h2 => h (i + 1) y e h1 h2)
theorem Fr.dp {K : PySem.W.Frag} {F : Addr → Prop} {H : Hp} : ∀ (n : Nat) (v : V) (d : PyData), Fr F H n v d → Dp K H v d
  | 0, _, _, h => Scal.dp h
  | n + 1, v, d, h => by
    rcases h with h | ⟨a, xs, ds, rfl, rfl, _, h1, hl, h2⟩
    · exact Scal.dp h
    · exact .lst (SqL.of h1) (dpAll_of xs ds hl fun i x e hx he => Fr.dp n x e (h2 i x e hx he))
theorem Fr.mono {F F' : Addr → Prop} {H H' : Hp} (hF : ∀ a, F a → F' a) (hh : ∀ a xs, F a → H a = some (.lst xs) → H' a = some (.lst xs)) : ∀ (n : Nat) (v : V) (d : PyData), Fr F H n v d → Fr F' H' n v d
  | 0, _, _, h => h
  | n + 1, v, d, h => by
    rcases h with h | ⟨a, xs, ds, rfl, rfl, f, h1, hl, h2⟩
    · exact .inl h
    · exact .inr ⟨a, xs, ds, rfl, rfl, hF a f, hh a xs f h1, hl, fun i x e hx he => Fr.mono hF hh n x e (h2 i x e hx he)⟩
theorem Dd.ex {K : PySem.W.Frag} {H H' : Hp} (e : Ex [] H H') : ∀ (n : Nat) (v : V) (d : PyData), Dd K H n v d → Dd K H' n v d
  | 0, _, _, h => h
  | n + 1, v, d, h => by
    rcases h with h | ⟨a, xs, ds, rfl, rfl, h1, hn, hl, h2⟩ | ⟨a, xs, ds, rfl, rfl, h1, hn, hl, h2⟩
    · exact .inl h
    · exact .inr (.inl ⟨a, xs, ds, rfl, rfl, e.sqT (by simp) h1, hn, hl, fun i x y hx hy => Dd.ex e n x y (h2 i x y hx hy)⟩)
    · exact .inr (.inr ⟨a, xs, ds, rfl, rfl, e.get0 h1, hn, hl, fun i x y hx hy => Dd.ex e n x y (h2 i x y hx hy)⟩)
theorem lay_all : ∀ {ds : List PyData}, (∀ e ∈ ds, PyData.canLay0 e = true) → PyData.canLayAll0 ds = true
  | [], _ => by simp [PyData.canLayAll0]
  | d :: ds, h => by
    rw [PyData.canLayAll0]
    exact Bool.and_eq_true_iff.mpr ⟨h d List.mem_cons_self, lay_all fun e he => h e (List.mem_cons_of_mem _ he)⟩
theorem dep_all {m : Nat} : ∀ {ds : List PyData}, (∀ e ∈ ds, PyData.depth e ≤ m) → PyData.depthAll ds ≤ m
  | [], _ => by simp [PyData.depthAll]
  | d :: ds, h => by
    rw [PyData.depthAll]
    exact Nat.max_le.mpr ⟨h d List.mem_cons_self, dep_all fun e he => h e (List.mem_cons_of_mem _ he)⟩
theorem lay_dS {l : List Nat} (h : plain l) : PyData.canLay0 (dS l) = true := by
  unfold dS
  rw [PyData.canLay0]
  exact strOk_S h
theorem dep_dS {l : List Nat} : PyData.depth (dS l) = 0 := by simp [dS, PyData.depth]
theorem scal_shape {v : V} {d : PyData} (h : Scal v d) : PyData.canLay0 d = true ∧ PyData.depth d = 0 := by
  rcases h with ⟨rfl, rfl⟩ | ⟨b, rfl, rfl⟩ | ⟨i, rfl, rfl⟩ | ⟨l, hl, rfl, rfl⟩
  · simp [PyData.canLay0, PyData.depth]
  · simp [PyData.canLay0, PyData.depth]
  · simp [PyData.canLay0, PyData.depth]
  · exact ⟨lay_dS hl, dep_dS⟩
theorem plain_tags : plain sTuple ∧ plain sList ∧ plain sTruth ∧ plain sPlain := by
  refine ⟨?_, ?_, ?_, ?_⟩ <;> (intro c hc; revert c; decide)
def tagOf : PyData → List Nat
  | .bool _ => sTruth
  | _ => sPlain
theorem mem_get {α : Type} {l : List α} {x : α} (h : x ∈ l) : ∃ i : Nat, l[i]? = some x := List.mem_iff_getElem?.mp h
end WB
namespace WB
open PySem PySem.Spec PyProof.Rows L2
def sDict : List Nat := [100, 105, 99, 116]
theorem plain_dict : plain sDict := by intro c hc; revert c; decide
theorem plain_a : plain [97] := by intro c hc; revert c; decide
def Dx (K : PySem.W.Frag) (H : Hp) : Nat → V → PyData → Prop
  | 0, v, d => Scal v d
  | n + 1, v, d => Scal v d ∨ (∃ a xs ds, v = .ref a ∧ d = .tuple ds ∧ SqT K H a xs ∧ xs.length ≤ 1000 ∧ ds.length = xs.length ∧ ∀ (i : Nat) x e, xs[i]? = some x → ds[i]? = some e → Dx K H n x e) ∨
    (∃ a xs ds, v = .ref a ∧ d = .list ds ∧ H a = some (.lst xs) ∧ xs.length ≤ 1000 ∧ ds.length = xs.length ∧ ∀ (i : Nat) x e, xs[i]? = some x → ds[i]? = some e → Dx K H n x e) ∨
    (∃ a, v = .ref a ∧ d = .dict [] ∧ H a = some (.dK [])) ∨ (∃ a y e, v = .ref a ∧ d = .dict [(dS [97], e)] ∧ H a = some (.dK [(kA, y)]) ∧ Dd K H n y e)
def faceX : Nat → PyData → PyData
  | _, .bool b => .list [dS sTruth, .bool b]
  | n + 1, .tuple ds => .list (dS sTuple :: ds.map (faceX n))
  | n + 1, .list ds => .list (dS sList :: ds.map (faceX n))
  | n + 1, .dict es => .list (dS sDict :: es.map fun e => .list [faceX n e.1, faceX n e.2])
  | _, d => .list [dS sPlain, d]
theorem Fr.up {F : Addr → Prop} {H : Hp} : ∀ (n : Nat) (v : V) (d : PyData), Fr F H n v d → Fr F H (n + 1) v d
  | 0, _, _, h => .inl h
  | n + 1, v, d, h => by
    rcases h with h | ⟨a, xs, ds, rfl, rfl, f, h1, hl, h2⟩
    · exact .inl h
    · exact .inr ⟨a, xs, ds, rfl, rfl, f, h1, hl, fun i x e hx he => Fr.up n x e (h2 i x e hx he)⟩
theorem Fr.le {F : Addr → Prop} {H : Hp} {n m : Nat} {v : V} {d : PyData} (hm : n ≤ m) (h : Fr F H n v d) : Fr F H m v d := by
  induction hm with
  | refl => exact h
  | step _ ih => exact Fr.up _ _ _ ih
def sp_law_faceX (K : PySem.W.Frag) : Nat → Sp
  | 0 => fun _ _ _ _ => False
  | n + 1 => fun vs H Q _ => ∃ v, vs = [v] ∧ ∃ d, Dx K H n v d ∧ ∀ r H', H r = none → Ex [] H H' → Fr (fun a => H a = none) H' (2 * n + 1) (.ref r) (faceX n d) → Q (.ref r) H'
theorem Dd.dx {K : PySem.W.Frag} {H : Hp} : ∀ (n : Nat) (v : V) (d : PyData), Dd K H n v d → Dx K H n v d
  | 0, _, _, h => h
  | n + 1, v, d, h => by
    rcases h with h | ⟨a, xs, ds, rfl, rfl, h1, hn, hl, h2⟩ | ⟨a, xs, ds, rfl, rfl, h1, hn, hl, h2⟩
    · exact .inl h
    · exact .inr (.inl ⟨a, xs, ds, rfl, rfl, h1, hn, hl, fun i x e hx he => Dd.dx n x e (h2 i x e hx he)⟩)
    · exact .inr (.inr (.inl ⟨a, xs, ds, rfl, rfl, h1, hn, hl, fun i x e hx he => Dd.dx n x e (h2 i x e hx he)⟩))
theorem Dx.ex {K : PySem.W.Frag} {H H' : Hp} (e : Ex [] H H') : ∀ (n : Nat) (v : V) (d : PyData), Dx K H n v d → Dx K H' n v d
  | 0, _, _, h => h
  | n + 1, v, d, h => by
    rcases h with h | ⟨a, xs, ds, rfl, rfl, h1, hn, hl, h2⟩ | ⟨a, xs, ds, rfl, rfl, h1, hn, hl, h2⟩ | ⟨a, rfl, rfl, h1⟩ | ⟨a, y, e1, rfl, rfl, h1, h2⟩
    · exact .inl h
    · exact .inr (.inl ⟨a, xs, ds, rfl, rfl, e.sqT (by simp) h1, hn, hl, fun i x y hx hy => Dx.ex e n x y (h2 i x y hx hy)⟩)
    · exact .inr (.inr (.inl ⟨a, xs, ds, rfl, rfl, e.get0 h1, hn, hl, fun i x y hx hy => Dx.ex e n x y (h2 i x y hx hy)⟩))
    · exact .inr (.inr (.inr (.inl ⟨a, rfl, rfl, e.get0 h1⟩)))
    · exact .inr (.inr (.inr (.inr ⟨a, y, e1, rfl, rfl, e.get0 h1, Dd.ex e n _ _ h2⟩)))
theorem SqT.lock {K : PySem.W.Frag} {H : Hp} {a d : Addr} {xs : List V} {u f : HO} (hd : H d = some u) (hu : ∀ ys, u ≠ .tup ys) (hf : ∀ o ys, u ≠ .frz o (.tup ys)) (h : SqT K H a xs) : SqT K (upd H d f) a xs := by
  have ne : ∀ w, H a = some w → (∀ z, w = z → z = u → False) → upd H d f a = some w := fun w hw hz => by
    rw [upd_ne (fun z => ?_)]
    · exact hw
    · rw [z, hd] at hw
      exact hz w rfl (Option.some.inj hw).symm
  rcases h with (h | ⟨o, h⟩) | h
  · exact .inl (.inl (ne _ h fun z e1 e2 => hu _ (e2.symm.trans e1.symm)))
  · exact .inl (.inr ⟨o, ne _ h fun z e1 e2 => hf _ _ (e2.symm.trans e1.symm)⟩)
  · exact .inr h
theorem Dd.lock {K : PySem.W.Frag} {H : Hp} {d : Addr} {kvs : List (Key × V)} {f : HO} (hd : H d = some (.dK kvs)) : ∀ (n : Nat) (v : V) (e : PyData), Dd K H n v e → Dd K (upd H d f) n v e
  | 0, _, _, h => h
  | n + 1, v, e, h => by
    rcases h with h | ⟨a, xs, ds, rfl, rfl, h1, hn, hl, h2⟩ | ⟨a, xs, ds, rfl, rfl, h1, hn, hl, h2⟩
    · exact .inl h
    · exact .inr (.inl ⟨a, xs, ds, rfl, rfl, SqT.lock hd (fun _ z => by cases z) (fun _ _ z => by cases z) h1, hn, hl, fun i x y hx hy => Dd.lock hd n x y (h2 i x y hx hy)⟩)
    · refine .inr (.inr ⟨a, xs, ds, rfl, rfl, ?_, hn, hl, fun i x y hx hy => Dd.lock hd n x y (h2 i x y hx hy)⟩)
      rw [upd_ne (fun z => ?_)]
      · exact h1
      · rw [z, hd] at h1
        cases h1
theorem face_scalX {n : Nat} {v : V} {d : PyData} (h : Scal v d) : faceX n d = .list [dS (tagOf d), d] := by
  rcases h with ⟨rfl, rfl⟩ | ⟨b, rfl, rfl⟩ | ⟨i, rfl, rfl⟩ | ⟨l, hl, rfl, rfl⟩ <;> cases n <;> rfl
theorem tag_plain {v : V} {d : PyData} (h : Scal v d) : plain (tagOf d) := by
  rcases h with ⟨rfl, rfl⟩ | ⟨b, rfl, rfl⟩ | ⟨i, rfl, rfl⟩ | ⟨l, hl, rfl, rfl⟩
  · exact plain_tags.2.2.2
  · exact plain_tags.2.2.1
  · exact plain_tags.2.2.2
  · exact plain_tags.2.2.2
theorem lay_list {m : Nat} {ds : List PyData} (h : ∀ e ∈ ds, PyData.canLay0 e = true ∧ PyData.depth e ≤ m) : PyData.canLay0 (.list ds) = true ∧ PyData.depth (.list ds) ≤ m + 1 := by
  constructor
  · rw [PyData.canLay0]
    exact lay_all fun e he => (h e he).1
  · rw [PyData.depth]
    have := dep_all fun e he => (h e he).2
    omega
theorem Fr.shape {F : Addr → Prop} {H : Hp} : ∀ (n : Nat) (v : V) (d : PyData), Fr F H n v d → PyData.canLay0 d = true ∧ PyData.depth d ≤ n
  | 0, v, d, h => by
    obtain ⟨h1, h2⟩ := scal_shape h
    exact ⟨h1, by omega⟩
  | n + 1, v, d, h => by
    rcases h with h | ⟨a, xs, ds, rfl, rfl, f, h1, hl, h2⟩
    · obtain ⟨h1, h2⟩ := scal_shape h
      exact ⟨h1, by omega⟩
    · refine lay_list fun e he => ?_
      obtain ⟨i, hi⟩ := mem_get he
      have hlt : i < xs.length := by
        have := (List.getElem?_eq_some_iff.mp hi).1
        omega
      exact Fr.shape n _ _ (h2 i xs[i] e (List.getElem?_eq_getElem hlt) hi)
theorem Fr.shaped {F : Addr → Prop} {H : Hp} {n : Nat} {v : V} {d : PyData} (hn : n ≤ 20) (h : Fr F H n v d) : SeqAt.shaped d = true := by
  obtain ⟨h1, h2⟩ := Fr.shape n v d h
  unfold SeqAt.shaped
  exact Bool.and_eq_true_iff.mpr ⟨h1, decide_eq_true (by omega)⟩
section
variable {K : PySem.W.Frag} {H : Hp} {Q : VK} {E : XK}
theorem s_neFr {F F' : Addr → Prop} {n m : Nat} {x y : V} {d : PyData} (hn : n ≤ 20) (h1 : Fr F H n x d) (h2 : Fr F' H m y d) (k : Q (.bl false) H) : rNeD K x y H Q := by
  have hs := h1.shaped hn
  refine ⟨_, _, Fr.dp n x _ h1, Fr.dp m y _ h2, hs, hs, ?_⟩
  rw [SeqAt.eqv_refl _ (Bool.and_eq_true_iff.mp hs).1]
  exact k
theorem s_eqFr {F F' : Addr → Prop} {n m : Nat} {x y : V} {d : PyData} (hn : n ≤ 20) (h1 : Fr F H n x d) (h2 : Fr F' H m y d) (k : Q (.bl true) H) : rEqD K x y H Q := by
  have hs := h1.shaped hn
  refine ⟨_, _, Fr.dp n x _ h1, Fr.dp m y _ h2, hs, hs, ?_⟩
  rw [SeqAt.eqv_refl _ (Bool.and_eq_true_iff.mp hs).1]
  exact k
theorem u_faceX {n : Nat} {v : V} {d : PyData} (h : Dx K H n v d) (k : ∀ r H', H r = none → Ex [] H H' → Fr (fun a => H a = none) H' (2 * n + 1) (.ref r) (faceX n d) → Q (.ref r) H') : sp_law_faceX K (n + 1) ([v] ++ []) H Q E := ⟨v, rfl, d, h, k⟩
theorem lc_facesX {J : It} {G : Hp → Prop} {xs : List V} {ds : List PyData} {n j : Nat} {σ : St} {E : XK} (w : Walk J xs.length G (YAt xs)) (hG : ∀ H1, Ex [] H H1 → G H1) (hn : xs.length ≤ 1000) (hj : j < σ.length) (hl : ds.length = xs.length)
    (hd : ∀ (i : Nat) x e, xs[i]? = some x → ds[i]? = some e → Dx K H n x e)
    (k : ∀ D H' ys, H D = none → Ex [] H H' → H' D = some (.lst ys) → ys.length = ds.length → (∀ (i : Nat) y e, ys[i]? = some y → ds[i]? = some e → Fr (fun a => H a = none ∧ a ≠ D) H' (2 * n + 1) y (faceX n e)) → Q (.ref D) H') :
    LcW J (gName j) tYes (tCall (sp_law_faceX K (n + 1)) [] E (tCons (tVar j) tNil)) [j] σ H Q := by
  intro D hD
  refine lc_it w (fun i H1 => Ex [] H H1 ∧ ∃ ys, H1 D = some (.lst ys) ∧ ys.length = i ∧ ∀ (m : Nat) y e, ys[m]? = some y → ds[m]? = some e → Fr (fun a => H a = none ∧ a ≠ D) H1 (2 * n + 1) y (faceX n e)) ⟨Ex.new hD, [], upd_same, rfl, by simp⟩ (fun i H1 _ h => hG H1 h.1) ?_ ?_
  · rintro i x H1 H2 hi ⟨e, ys, hy, hyl, hf⟩ ⟨rfl, hx⟩
    refine ⟨wipe1 _ _ _, ?_⟩
    refine s_yes ?_
    refine s_T rfl ?_
    refine s_call ?_
    refine s_cons ?_
    refine s_var (v := x) (by rw [List.getElem?_set_self (by simp [wipe]; exact hj)]) ?_
    refine s_nil ?_
    have hid : i < ds.length := by omega
    refine u_faceX (d := ds[i]) (Dx.ex e n x _ (hd i x _ hx (List.getElem?_eq_getElem hid))) fun r H5 hr e5 hfr => ?_
    have hDn : H2 D ≠ none := by rw [hy]; simp
    refine ⟨ys, e5.get0 hy, by rw [hyl]; exact Nat.lt_of_lt_of_le hi (Nat.le_trans hn (by decide)), ?_, ys ++ [.ref r], upd_same, by simp [hyl], ?_⟩
    · intro b o nb hb
      rw [upd_ne (ne_of_none hb hD)]
      exact e5 b o nb (e b o nb hb)
    · intro m y e' hm he
      by_cases hmi : m < i
      · rw [List.getElem?_append_left (by omega)] at hm
        refine Fr.mono (fun a h => h) (fun a zs fa ha => ?_) _ _ _ (hf m y e' hm he)
        rw [upd_ne fa.2]
        exact e5.get0 ha
      · have hmi' : m = i := by
          have := (List.getElem?_eq_some_iff.mp hm).1
          simp at this
          omega
        subst hmi'
        rw [List.getElem?_append_right (by omega)] at hm
        have : y = .ref r := by
          simp [hyl] at hm
          exact hm.symm
        subst this
        rw [List.getElem?_eq_getElem hid] at he
        cases he
        refine Fr.mono (fun a h => ⟨e.free h, fun z => hDn (z ▸ h)⟩) (fun a zs fa ha => ?_) _ _ _ hfr
        rw [upd_ne (show a ≠ D from fun z => hDn (z ▸ fa))]
        exact ha
  · rintro H1 ⟨e, ys, hy, hyl, hf⟩
    exact k D H1 ys hD e hy (by omega) hf
theorem s_lockE {t : TE} {σ : St} {d : Addr} {kvs : List (Key × V)} (hd : H d = some (.dK kvs)) (k : ∀ od, t σ (upd H d (.frz od (.dK kvs))) fun v H' => H' d = some (.frz od (.dK kvs)) ∧ Q v (upd H' d (.dK kvs))) : tLockE t σ H Q := ⟨d, _, hd, True.intro, k⟩
theorem s_iKeys {te : TE} {σ : St} {R : It → Hp → Prop} (k : te σ H fun x H1 => ∃ d o, x = .ref d ∧ ((∃ kvs, H1 d = some (.frz o (.dK kvs)) ∧ R (Itk d o kvs) H1) ∨ ∃ kvs, H1 d = some (.frz o (.dT kvs)) ∧ R (Itkt d o kvs) H1)) : iKeys te σ H R := k
theorem lc_none {d : Addr} {o : Obj} {g : TG} {tt : TT} {te : TE} {vs : List Nat} {σ : St} (hd : H d = some (.frz o (.dK []))) (k : ∀ D, H D = none → Q (.ref D) (upd H D (.lst []))) : LcW (Itk d o []) g tt te vs σ H Q := by
  intro D hD
  refine ⟨fun i m H' => H' = upd H D (.lst []), ⟨0, rfl⟩, fun i m H' e => .inl ⟨⟨?_, Nat.zero_le _⟩, ?_⟩⟩
  · rw [e, upd_ne (ne_of_none hd hD)]
    exact hd
  · rw [e]
    exact k D hD
theorem lc_one {d : Addr} {o : Obj} {z : Key} {v1 : V} {te : TE} {j : Nat} {σ : St} (hd : H d = some (.frz o (.dK [(z, v1)])))
    (h : ∀ D, H D = none → ∀ C : VK, (∀ y H4, H4 D = some (.lst []) → H4 d = some (.frz o (.dK [(z, v1)])) → Q (.ref D) (upd H4 D (.lst [y])) → C y H4) → te ((wipe σ [j]).set j (some (kV z))) (upd H D (.lst [])) C) : LcW (Itk d o [(z, v1)]) (gName j) tYes te [j] σ H Q := by
  intro D hD
  have nd : d ≠ D := ne_of_none hd hD
  refine ⟨fun i m H' => (i = 0 ∧ m = 1 ∧ H' = upd H D (.lst [])) ∨ (i = 1 ∧ m = 0 ∧ H' d = some (.frz o (.dK [(z, v1)])) ∧ Q (.ref D) H'), ⟨1, .inl ⟨rfl, rfl, rfl⟩⟩, fun i m H' hw => ?_⟩
  rcases hw with ⟨rfl, rfl, rfl⟩ | ⟨rfl, rfl, h1, h2⟩
  · refine .inr ⟨⟨by rw [upd_ne nd]; exact hd, Nat.zero_lt_one⟩, fun H' => H' d = some (.frz o (.dK [(z, v1)])) ∧ Q (.ref D) H', fun H' h1 => ⟨0, by decide, .inr ⟨rfl, rfl, h1.1, h1.2⟩⟩, ?_⟩
    rintro x H2 ⟨rfl, k0, v0, hk, rfl⟩
    cases hk
    refine ⟨wipe1 _ _ _, ?_⟩
    refine s_yes ?_
    refine s_T rfl ?_
    refine h D hD _ fun y H4 h3 h4 h5 => ⟨[], h3, by decide, ?_, h5⟩
    rw [upd_ne nd]
    exact h4
  · exact .inl ⟨⟨h1, Nat.le_refl _⟩, h2⟩
theorem lock_ex {a : Addr} {u f : HO} {H' : Hp} (ha : H a = some u) (e : Ex [] (upd H a f) H') : Ex [] H (upd H' a u) := by
  intro b o nb hb
  by_cases h : b = a
  · subst h
    rw [ha] at hb
    rw [← hb, upd_same]
  · rw [upd_ne h]
    exact e b o nb (by rw [upd_ne h]; exact hb)
end
end WB
namespace WB
open PySem PySem.Spec PyProof.Rows L2 LamX
def tTryL (K : PySem.W.Frag) (l : List Cl) (tb : WX → TS) : TS := fun D σ H => tb (wList K D l) D σ H
theorem FunD_okC {P : Program} {w : World} {K : PySem.W.Frag} {mg : Str → Option Value} {base : Heap} {CX : CXT} {x qual : Str} {params : Arguments} {body : List Stmt} {scope : Scope} {dvs kws} {fd : FuncData} {N ps : List Str} {k : Nat} {sp : Sp} (F : FunD K x qual params body scope dvs kws (He.ga K x) fd) (S : FnScope N ps scope) (len : ∀ vs H Q E, sp vs H Q E → vs.length = ps.length)
    (hbody : ∀ (A : Around) (outer : List Env) (s : Shared) (H : Hp) (vs : List V) (Q : VK) (E : XK), Room k (A.deeper (envOfC qual scope s.heap.objs.size (He.ga K x) (.ref (He.cT K (x, none)).1))) → sp vs H Q E →
      ∃ t, PSs (cxOf CX P w K mg base N qual scope (He.ga K x) (.ref (He.cT K (x, none)).1) A outer s H E) body t ∧ t { nx := fun _ H' => Q .non H', rt := Q } (start N vs) H) : FnOk P w K mg base CX (k + 1) (He.ga K x) fd ps sp := by
  obtain ⟨oc, od, dV, kV, doc, pm, an, cdv, ct, osl, rfl, lk, hcd, _, _⟩ := F.ex
  obtain ⟨c, rfl⟩ := He.codeIn_ref hcd
  have e : He.codeOf K (x, none) = c := He.codeOf_eq (p := (x, none)) lk rfl
  refine fn_of lk hcd S len fun A outer s H vs Q E hr hsp => ?_
  have h := hbody A outer s H vs Q E
  unfold He.cT at h
  rw [e] at h
  exact h hr hsp
def FinH (K : PySem.W.Frag) (w : List Nat) (v : V) (H : Hp) (Q : VK) : Prop := ∃ d, Dx K H 5 v d ∧ ∀ p H', H p = none → Ex [] H H' → Fr (fun a => H a = none) H' 12 (.ref p) (.list [dS w, faceX 5 d]) → Q (.ref p) H'
def HeardE (K : PySem.W.Frag) (l : List (Str × Str × List Nat)) (Q : VK) : XK := fun cls dd H => ∃ C f w, (C, f, w) ∈ l ∧ cls = .ref (He.ga K C) ∧ ∃ d v, dd = some d ∧ H d = some (.xd [(f, v)]) ∧ FinH K w v H Q
def sNothing : List Nat := [110, 111, 116, 104, 105, 110, 103]
def TTh (K : PySem.W.Frag) (l : List (Str × Str × List Nat)) (tl : XK → Hp → VK → Prop) (H : Hp) (Q : VK) : Prop := tl (HeardE K l Q) H fun _ H' => FinH K sNothing .non H' Q
def Rsd (K : PySem.W.Frag) (H : Hp) (E : XK) (C f : Str) (v : V) : Prop := ∀ d H', H d = none → Ex [] H H' → H' d = some (.xd [(f, v)]) → E (.ref (He.ga K C)) (some d) H'
theorem rsd_of {K : PySem.W.Frag} {fI : Addr} {C f : Str} {E : XK} {H0 H : Hp} {v : V} (T : ExcK K (He.ga K C) fI f) (e : Ex [] H0 H) (h : Rsd K H0 E C f v) :
    [v].length ≤ 1000 ∧ ∀ a, H a = none → sp_exc K (He.ga K C) f (.ref a :: ([v] ++ [])) (upd H a (exo a (He.ga K C) none))
      (fun z H2 => z = .non ∧ ∃ (d : Addr) (fs : List (Str × V)), H2 a = some (exo a (He.ga K C) (some d)) ∧ H2 d = some (exd d fs) ∧ H d = none ∧ E (.ref (He.ga K C)) (some d) (upd (del H2 a) d (.xd fs))) (fun _ _ _ => False) :=
  rs_of T fun d hd => h d _ (e.free hd) (e.trans (Ex.new hd)) upd_same
section
variable {K : PySem.W.Frag} {H : Hp} {Q : VK} {E : XK}
theorem s_lam {T : List (Addr × Str)} {TT : (XK → Hp → VK → Prop) → Hp → VK → Prop} {t : XK → TE} {σ : St} (hT : Tabs T H) (k : ∀ H1, ExtN H H1 → Tabs T H1 → TT (fun E H' Q' => t E σ H' Q') H1 Q) : tLam T TT t σ H Q := ⟨hT, k⟩
theorem s_rs {C : Addr} {f : Str} {ta : TA} {D : Ends} {σ : St} (k : ta σ H fun vs H1 => vs.length ≤ 1000 ∧ ∀ a, H1 a = none → sp_exc K C f (.ref a :: (vs ++ [])) (upd H1 a (exo a C none))
  (fun v H2 => v = .non ∧ ∃ (d : Addr) (fs : List (Str × V)), H2 a = some (exo a C (some d)) ∧ H2 d = some (exd d fs) ∧ H1 d = none ∧ E (.ref C) (some d) (upd (del H2 a) d (.xd fs))) (fun _ _ _ => False)) : tRs K C f E ta D σ H := k
theorem s_tryL {l : List Cl} {tb : WX → TS} {D : Ends} {σ : St} (k : tb (wList K D l) D σ H) : tTryL K l tb D σ H := k
theorem s_act {f c' : Addr} {q : Str} {tl : XK → Hp → VK → Prop} {W : WX} {σ : St} (h0 : σ[0]? = some (some (.ref f))) (h1 : H c' = some (CodeO c' q)) {E1 : XK} {Q1 : VK} (hE : ∀ c d H', E1 c d H' → W c d σ H') (hQ : ∀ v H', Q1 v H' → Q v H') (h : tl E1 H Q1) : tAct f c' q tl W σ H Q := ⟨h0, h1, E1, Q1, hE, hQ, h⟩
theorem s_xf {a C : Addr} {cls : Value} {d : Option Addr} {f : Str} {te : TE} {σ : St} (k : te σ H fun x H1 => x = .ref a ∧ cls = .ref C ∧ ∃ (dd : Addr) (fs : List (Str × V)) (v : V), d = some dd ∧ H1 dd = some (.xd fs) ∧ fs.lookup f = some v ∧ Q v H1) : tXf a cls d C f te σ H Q := k
theorem ExtN.pool {H1 : Hp} {a : Addr} (e : ExtN H H1) (h : PoolAt H a) : PoolAt H1 a := by
  obtain ⟨x, y, z, h⟩ := h
  exact ⟨x, y, z, e _ _ h fun _ z => by cases z⟩
end
end WB
namespace WB
open PySem PySem.Spec PyProof.Rows L2
local macro_rules | `(tactic| walk_at "lit") => `(tactic| first | exact lit_abc | exact lit_empty)
local macro_rules | `(tactic| walk_at "nm") => `(tactic| focus first | exact List.not_mem_nil | (simp only [List.mem_singleton]; first | assumption | (exact Ne.symm (by assumption)) | (intro hz; subst hz; simp_all; done)))
local macro_rules | `(tactic| walk_at "hp") => `(tactic| first | assumption | (apply Ex.get0 (by assumption); walk_at "hp") | (apply Ex.get (by assumption); (walk_at "nm"); (walk_at "hp")))
local macro_rules | `(tactic| walk_at "sq") => `(tactic| first | assumption | (apply SqL.of; walk_at "hp") | (apply Ex.sqL (by assumption); (walk_at "nm"); (walk_at "sq")))
local macro_rules | `(tactic| walk_at "sqt") => `(tactic| first | assumption | (apply SqT.of; walk_at "hp") | (apply Ex.sqT (by assumption); (walk_at "nm"); (walk_at "sqt")))
local macro_rules | `(tactic| walk_at "sz") => `(tactic| focus ((with_reducible refine Nat.le_trans (m := 100000) ?_ (by decide)); first | omega | (simp; done) | (simp; omega)))
local macro_rules | `(tactic| walk_at "mul") => `(tactic| first | exact Or.inr ⟨by omega, by omega⟩ | exact Or.inl ⟨by omega, by omega⟩)
local macro_rules | `(tactic| walk_at "pool") => `(tactic| first | assumption | (apply PoolAt.ex (by assumption); (walk_at "nm"); (walk_at "pool")))
local macro_rules | `(tactic| walk_at "ring") => `(tactic| first | assumption | (apply RingAt.ex (by assumption); (walk_at "nm"); (walk_at "ring")))
local macro_rules | `(tactic| walk_at "st") => `(tactic| first
  | with_reducible refine s_seq ?_
  | with_reducible refine s_asg ?_
  | with_reducible refine s_gName ?_
  | with_reducible refine s_ret ?_
  | with_reducible refine s_ifS ?_
  | with_reducible refine s_next ?_
  | with_reducible refine s_op ?_
  | ((with_reducible apply s_var); exact rfl)
  | ((with_reducible apply s_cS); (walk_at "lit"))
  | with_reducible refine s_c ?_
  | with_reducible refine s_cb ?_
  | with_reducible refine s_cons ?_
  | with_reducible refine s_nil ?_
  | with_reducible refine s_un ?_
  | with_reducible refine s_call ?_
  | with_reducible refine s_test ?_
  | with_reducible refine s_tB ?_
  | with_reducible refine s_blQ ?_
  | with_reducible refine s_not ?_
  | with_reducible refine s_and ?_
  | with_reducible refine s_or ?_
  | with_reducible refine s_andV ?_
  | with_reducible refine s_orV ?_
  | with_reducible refine s_notV ?_
  | with_reducible refine s_ifE ?_
  | with_reducible refine s_chain ?_
  | ((with_reducible refine s_T ?_ ?_); (with_reducible exact rfl))
  | with_reducible refine s_nT ?_
  | with_reducible refine s_nF ?_
  | ((with_reducible refine s_F ?_ ?_); (with_reducible exact rfl))
  | ((with_reducible refine s_T ?_ ?_); assumption)
  | ((with_reducible refine s_F ?_ ?_); assumption)
  | ((with_reducible refine s_nB ?_ ?_); assumption)
  | ((with_reducible refine s_nA ?_ ?_); assumption)
  | ((with_reducible refine s_Td ?_ ?_); omega)
  | ((with_reducible refine s_Fd ?_ ?_); omega)
  | ((with_reducible refine s_nTd ?_ ?_); omega)
  | ((with_reducible refine s_nFd ?_ ?_); omega)
  | with_reducible refine s_sfld ?_
  | with_reducible refine s_addI ?_
  | with_reducible refine s_subI ?_
  | ((with_reducible refine s_mulI ?_ ?_); (walk_at "mul"))
  | ((with_reducible refine s_divI ?_ ?_); exact ⟨by omega, by omega⟩)
  | ((with_reducible refine s_modI ?_ ?_); omega)
  | ((with_reducible refine s_powI ?_ ?_); exact ⟨by decide, by decide, by decide⟩)
  | with_reducible refine s_ltI ?_
  | with_reducible refine s_leI ?_
  | with_reducible refine s_gtI ?_
  | with_reducible refine s_geI ?_
  | with_reducible refine s_negI ?_
  | with_reducible refine s_absI ?_
  | with_reducible refine s_intI ?_
  | with_reducible refine s_min2 ?_
  | with_reducible refine s_max2 ?_
  | with_reducible refine s_eqI ?_
  | with_reducible refine s_neI ?_
  | with_reducible refine s_eqS ?_
  | with_reducible refine s_neS ?_
  | with_reducible refine s_inSg ?_
  | with_reducible refine s_notInSg ?_
  | ((with_reducible refine s_addS ?_ ?_); (walk_at "sz"))
  | ((with_reducible refine s_lenS ?_ ?_); (walk_at "sz"))
  | ((with_reducible apply s_lenL); (walk_at "sq"))
  | ((with_reducible apply s_lenT); (walk_at "sqt"))
  | ((with_reducible apply s_ixL); (walk_at "sq"); exact rfl)
  | ((with_reducible apply s_ixT); (walk_at "sqt"); exact rfl)
  | with_reducible refine s_gSub ?_
  | ((with_reducible apply s_setL); (walk_at "hp"); (exact rfl); (intro _ _ _))
  | ((with_reducible refine s_alloc ?_ ?_); (walk_at "sz"); (intro _ _ _ _ _))
  | ((with_reducible refine s_divmod ?_ ?_); (exact ⟨by omega, PyProof.noPylong_small (by omega)⟩); (intro _ _ _ _ _))
  | ((with_reducible apply s_gTup); (walk_at "sqt"); (exact rfl))
  | ((with_reducible apply s_gLst); (walk_at "sq"); (exact rfl))
  | with_reducible refine s_gCons ?_
  | with_reducible refine s_gNil ?_
  | with_reducible refine s_lc ?_
  | ((with_reducible apply s_cat); (walk_at "hp"); (walk_at "hp"); (walk_at "sz"); (intro _ _ _ _ _))
  | ((with_reducible apply s_slL); (walk_at "sq"); (intro _ _ _ _ _))
  | with_reducible refine s_for ?_
  | with_reducible refine s_rng1 ?_
  | ((with_reducible refine s_rng1i ?_ ?_); (constructor <;> omega))
  | with_reducible refine s_rng2 ?_
  | ((with_reducible refine s_rng2i ?_ ?_); (refine ⟨?_, ?_, ?_, ?_⟩ <;> omega))
  | with_reducible refine s_iStr ?_
  | with_reducible refine s_iStrS ?_
  | with_reducible refine s_iList ?_
  | ((with_reducible apply s_iListA); (walk_at "sq"))
  | with_reducible refine s_iTup ?_
  | ((with_reducible apply s_iTupA); (walk_at "sqt"))
  | with_reducible refine s_sl ?_
  | with_reducible refine s_noPart ?_
  | with_reducible refine s_part ?_
  | with_reducible refine s_int1 ?_
  | ((with_reducible refine s_slS ?_ ?_); (walk_at "sz"))
  | with_reducible refine s_tup ?_
  | with_reducible refine s_lst ?_
  | with_reducible refine s_par ?_
  | with_reducible refine s_pair ?_
  | with_reducible refine s_M1 ?_
  | with_reducible refine s_isStr ?_
  | with_reducible refine s_revS ?_
  | ((with_reducible refine s_revS1 ?_ ?_); (walk_at "sz"))
  | with_reducible refine s_fldE ?_
  | with_reducible refine s_propE ?_
  | ((with_reducible refine u_draw ?_ ?_ ?_ ?_); omega; omega; (walk_at "pool"); (intro _ _ _ _ _ _))
  | ((with_reducible refine u_pool ?_); (intro _ _ _ _ _))
  | with_reducible refine u_is_integer ?_
  | with_reducible refine s_isiII ?_
  | with_reducible refine s_isiIB ?_
  | with_reducible refine s_isiSS ?_
  | ((with_reducible apply u_fldRing); assumption; (walk_at "ring"))
  | ((with_reducible apply u_textP); (walk_at "ring"))
  | ((with_reducible apply u_strRing); (walk_at "ring"))
  | ((with_reducible apply u_eqRing); (walk_at "ring"); (walk_at "ring"))
  | ((with_reducible apply u_isiRing); assumption; (walk_at "ring"))
  | ((with_reducible refine u_is_word ?_ ?_); omega; (intro _ _))
  | ((with_reducible refine u_turnings ?_ ?_); omega; (intro _ _ _ _ _))
  | with_reducible refine s_makeE ?_
  | with_reducible refine s_methE ?_)
local macro_rules | `(tactic| walk_at "go") => `(tactic| repeat (walk_at "st"))
local macro_rules | `(tactic| walk_at "exs") => `(tactic| first | exact Ex.rfl | assumption | (apply Ex.snoc (by assumption); walk_at "exs") | (apply Ex.snocW (by assumption); walk_at "exs"))
def t_is_integer (K : PySem.W.Frag) : TS :=
  (tRet (tAndV (tCB (rIsi K) (tCons (tVar 0) (tCons (tC (.ty "int")) tNil))) (tNotV (tCB (rIsi K) (tCons (tVar 0) (tCons (tC (.ty "bool")) tNil))))))
def t_is_word (K : PySem.W.Frag) : TS :=
  (tSeq (tIfS (tOr (tNot (tB (tCB (rIsi K) (tCons (tVar 0) (tCons (tC (.ty "str")) tNil))))) (tNot (tTest (tChain rLeI rLeI (tC (.int 1)) (tCB (rLenV K) (tCons (tVar 0) tNil)) (tC (.int 600)))))) (tRet (tC (.bl false))) tNext)
  (tRet (tCB (rAll K) (tCons (tLc (iStr (tVar 0)) (gName 2) tYes (tOp rInSg (tVar 2) (tVar 1)) [2]) tNil))))
def t_law_cell (K : PySem.W.Frag) : TS :=
  (tSeq (tIfS (tTest (tOp rLtI (tVar 1) (tCB (rLenV K) (tCons (tVar 0) tNil)))) (tRet (tOp (rIxL K) (tVar 0) (tVar 1))) tNext)
  (tSeq (tAsg (tOp rAddI (tC (.int 70001)) (tOp rMulI (tOp rMulI (tC (.int 4093)) (tVar 1)) (tVar 1))) (gName 2))
  (tSeq (tFor (iList K (tSl (rSlL K) (tVar 0) tNoPart (tPart (tC (.int 4))))) (gName 3) (tAsg (tOp rModI (tCB rIntI (tCons (tOp rAddI (tOp rMulI (tVar 2) (tC (.int 521))) (tVar 3)) tNil)) (tC (.int 2147483629))) (gName 2)))
  (tRet (tVar 2)))))
def t_law_pool (K : PySem.W.Frag) : TS :=
  (tSeq (tAsg (tIf (tOr (tTest (tOp rLtI (tVar 0) (tC (.int 0)))) (tTest (tOp rGeI (tVar 0) (tOp rPowI (tC (.int 10)) (tC (.int 18)))))) (tCB rAbsI (tCons (tVar 0) tNil)) (tC (.int 0))) (gName 1))
  (tRet (tLst (tCons (tOp rModI (tCB rIntI (tCons (tVar 0) tNil)) (tC (.int 2147483587))) (tCons (tVar 1) (tCons (tC (.int 0)) tNil))))))
def t_law_draw (K : PySem.W.Frag) : TS :=
  (tSeq (tAsg (tOp rAddI (tOp (rIxL K) (tVar 0) (tC (.int 2))) (tC (.int 1))) (gSub (tVar 0) (tC (.int 2)) rSetL))
  (tSeq (tAsg (tOp rModI (tCB rIntI (tCons (tOp rAddI (tOp rAddI (tOp rMulI (tOp (rIxL K) (tVar 0) (tC (.int 0))) (tC (.int 50021))) (tOp rMulI (tOp (rIxL K) (tVar 0) (tC (.int 2))) (tC (.int 69067)))) (tC (.int 31))) tNil)) (tC (.int 2147483587))) (gName 2))
  (tSeq (tAsg (tOp rModI (tCB rIntI (tCons (tOp rMulI (tVar 2) (tOp rAddI (tOp rDivI (tVar 2) (tC (.int 1024))) (tC (.int 12829)))) tNil)) (tC (.int 2147483629))) (gSub (tVar 0) (tC (.int 0)) rSetL))
  (tSeq (tIfS (tTest (tOp rGtI (tOp (rIxL K) (tVar 0) (tC (.int 1))) (tC (.int 0)))) (tSeq (tAsg (tCB rDivmod (tCons (tOp (rIxL K) (tVar 0) (tC (.int 1))) (tCons (tVar 1) tNil))) (gTup K 2 (gCons (gSub (tVar 0) (tC (.int 1)) rSetL) (gCons (gName 3) gNil))))
  (tRet (tVar 3))) tNext)
  (tRet (tOp rModI (tCB rIntI (tCons (tOp rDivI (tOp (rIxL K) (tVar 0) (tC (.int 0))) (tC (.int 53))) tNil)) (tVar 1)))))))
def t_law_signs (K : PySem.W.Frag) : TS :=
  (tSeq (tAsg (tC (.str "")) (gName 2))
  (tSeq (tFor (iRng1 (tCons (tOp rAddI (tC (.int 1)) (tCall (sp_law_draw K) [] E0 (tCons (tVar 0) (tCons (tVar 1) tNil)))) tNil)) (gName 3) (tSeq (tAsg (tLc (iStr (tC (.str "abcdefghijklmnopqrstuvwxyz"))) (gName 5) (tTest (tOp rNotInSg (tVar 5) (tVar 2))) (tVar 5) [5]) (gName 4))
  (tAsg (tOp rAddS (tVar 2) (tOp (rIxL K) (tVar 4) (tCall (sp_law_draw K) [] E0 (tCons (tVar 0) (tCons (tCB (rLenV K) (tCons (tVar 4) tNil)) tNil))))) (gName 2))))
  (tRet (tVar 2))))
abbrev E1 (Q : VK) : Ends := ⟨fun _ H' => Q .non H', Q, fun _ _ => False, fun _ _ => False⟩
section
variable {K : PySem.W.Frag} {vs : List V} {H : Hp} {Q : VK} {E : XK}
theorem pure_law_draw (h : sp_law_draw K vs H Q E) : t_law_draw K (E1 Q) (start ["_law_pool_here", "_law_many", "_law_mixed", "_law_digit"] vs) H := by
  obtain ⟨a, m, rfl, h0, h1, ⟨x, y, z, hp⟩, k⟩ := h
  show t_law_draw K (E1 Q) [some (.ref a), some (.int m), none, none] H
  unfold t_law_draw
  walk_at "go"
  refine s_2 (fun hb => ?_) (fun hb => ?_)
  · walk_at "go"
    exact k _ _ (Int.emod_nonneg _ (by omega)) (Int.emod_lt_of_pos _ h0) (by walk_at "exs") ⟨_, _, _, by walk_at "hp"⟩
  · walk_at "go"
    exact k _ _ (Int.emod_nonneg _ (by omega)) (Int.emod_lt_of_pos _ h0) (by walk_at "exs") ⟨_, _, _, by walk_at "hp"⟩
theorem pure_law_pool (h : sp_law_pool K vs H Q E) : t_law_pool K (E1 Q) (start ["_law_cell_here", "_law_digits"] vs) H := by
  obtain ⟨c, rfl, k⟩ := h
  show t_law_pool K (E1 Q) [some (.int c), none] H
  unfold t_law_pool
  walk_at "go"
  refine s_2 (fun hb => ?_) (fun hb => ?_)
  · walk_at "go"
    exact k _ _ (by assumption) (by walk_at "exs") ⟨_, _, _, by walk_at "hp"⟩
  · walk_at "go"
    refine s_2 (fun hb => ?_) (fun hb => ?_)
    · walk_at "go"
      exact k _ _ (by assumption) (by walk_at "exs") ⟨_, _, _, by walk_at "hp"⟩
    · walk_at "go"
      exact k _ _ (by assumption) (by walk_at "exs") ⟨_, _, _, by walk_at "hp"⟩
theorem pure_law_cell (h : sp_law_cell K vs H Q E) : t_law_cell K (E1 Q) (start ["_law_script", "_law_k", "_law_mixed", "_law_cell_here"] vs) H := by
  obtain ⟨a, ns, n, rfl, hs, hl, h0, h1, k⟩ := h
  show t_law_cell K (E1 Q) [some (.ref a), some (.int n), none, none] H
  unfold t_law_cell
  walk_at "go"
  refine s_2 (fun hb => ?_) (fun hb => ?_)
  · have hb := of_decide_eq_true hb
    rw [List.length_map] at hb
    have hx : ns[n.toNat]? = some (ns[n.toNat]'(by omega)) := List.getElem?_eq_getElem _
    walk_at "go"
    refine s_ixL hs (atI_of h0 (by rw [List.getElem?_map, hx]; rfl)) ?_
    exact k _ _ Ex.rfl
  · walk_at "go"
    rename_i p H2 hp e2 h2
    refine for_run walk_list (fun i σ H1 => ∃ (c : Int) (x : Option V), σ = [some (.ref a), some (.int n), some (.int c), x] ∧ Ex [] H H1 ∧ H1 p = some (.lst (cutV (ns.map V.int) none (some 4)))) ⟨_, none, rfl, e2, h2⟩ (fun i σ H1 _ ⟨_, _, _, _, h⟩ => SqL.of h) ?_ ?_
    · rintro i x σ H1 H3 hi ⟨c, y, rfl, e, hc⟩ ⟨rfl, hx⟩
      obtain ⟨z, _, rfl⟩ := List.mem_map.mp (mem_cutV (List.mem_of_getElem? hx))
      walk_at "go"
      exact ⟨_, _, rfl, e, hc⟩
    · rintro σ H1 ⟨c, y, rfl, e, hc⟩
      walk_at "go"
      exact k _ _ e
end
section
variable {K : PySem.W.Frag} {vs : List V} {H : Hp} {Q : VK} {E : XK}
theorem four_left {l : List Nat} (h : l.length ≤ 3) : (LET.filter fun c => !decide (c ∈ l)) ≠ [] := by
  intro e
  have h1 : ∀ c ∈ LET, c ∈ l := fun c hc => by
    rcases Classical.em (c ∈ l) with z | z
    · exact z
    · have : c ∈ LET.filter fun c => !decide (c ∈ l) := List.mem_filter.mpr ⟨hc, by simp [z]⟩
      rw [e] at this
      cases this
  have a := h1 97 (by decide)
  have b := h1 98 (by decide)
  have c := h1 99 (by decide)
  have d := h1 100 (by decide)
  match l, h with
  | [], _ => cases a
  | [x], _ => simp at a b; omega
  | [x, y], _ => simp at a b c; omega
  | [x, y, z], _ => simp at a b c d; omega
theorem pure_law_signs (h : sp_law_signs K vs H Q E) : t_law_signs K (E1 Q) (start ["_law_pool_here", "_law_most", "_law_found", "_law_turn", "_law_rest", "_law_mark"] vs) H := by
  obtain ⟨a, m, rfl, h0, h1, hp, k⟩ := h
  show t_law_signs K (E1 Q) [some (.ref a), some (.int m), none, none, none, none] H
  unfold t_law_signs
  walk_at "go"
  rename_i r H1 r0 r1 e1 p1
  refine for_run walk_range (fun i σ H2 => ∃ (f : List Nat) (x y z : Option V), σ = [some (.ref a), some (.int m), some (vS f), x, y, z] ∧ f.length = i ∧ (∀ c ∈ f, c ∈ LET) ∧ f.Nodup ∧ Ex [a] H H2 ∧ PoolAt H2 a) ⟨[], none, none, none, rfl, rfl, by simp, by simp, e1, p1⟩ (fun _ _ _ _ _ => trivial) ?_ ?_
  · rintro i x σ H2 H3 hi ⟨f, y, z, u, rfl, hf, hs, hd, e2, p2⟩ ⟨rfl, rfl⟩
    walk_at "go"
    refine lc_mapS (by decide) (fun c => !decide (c ∈ f)) (fun c => vS [c]) (fun c H4 C1 C0 hc e4 k1 k0 => ?_) (fun D H4 hD e4 hd4 => ?_)
    · walk_at "go"
      refine s_2 (fun hb => ?_) (fun hb => ?_)
      · walk_at "go"
        exact k1 _ Ex.rfl hb
      · exact k0 _ Ex.rfl hb
    · walk_at "go"
      have hne : D ≠ a := fun z => p2.there (z ▸ hD)
      have hL : (LET.filter fun c => !decide (c ∈ f)) ≠ [] := four_left (by omega)
      have hm : ∀ c ∈ (LET.filter fun c => !decide (c ∈ f)), c ∈ LET ∧ c ∉ f := fun c hc => by
        obtain ⟨h1, h2⟩ := List.mem_filter.mp hc
        exact ⟨h1, by simpa using h2⟩
      have hz : (LET.filter fun c => !decide (c ∈ f)).length ≤ 26 := List.length_filter_le _ _
      revert hd4 hL hm hz
      generalize (LET.filter fun c => !decide (c ∈ f)) = L
      intro hd4 hL hm hz
      have h0L : 0 < L.length := List.length_pos_iff.mpr hL
      rw [List.length_map]
      walk_at "go"
      rename_i r2 H5 r20 r21 e5 p5
      obtain ⟨c, hc⟩ : ∃ c, L[r2.toNat]? = some c := ⟨_, List.getElem?_eq_getElem (by omega)⟩
      refine s_ixL (xs := L.map fun c => vS [c]) (by walk_at "sq") (atI_of r20 (by rw [List.getElem?_map, hc]; rfl)) ?_
      obtain ⟨c1, c2⟩ := hm c (List.mem_of_getElem? hc)
      walk_at "go"
      refine ⟨f ++ [c], _, _, _, rfl, by rw [List.length_append, hf]; rfl, fun x hx => ?_, ?_, by walk_at "exs", p5⟩
      · rcases List.mem_append.mp hx with hx | hx
        · exact hs x hx
        · rw [List.mem_singleton.mp hx]; exact c1
      · exact List.nodup_append.mpr ⟨hd, by simp, fun x hx y hy => by rw [List.mem_singleton.mp hy]; intro z; exact c2 (z ▸ hx)⟩
  · rintro σ H2 ⟨f, y, z, u, rfl, hf, hs, hd, e2, p2⟩
    walk_at "go"
    refine k f _ ?_ ?_ hs hd e2 p2
    · intro e
      subst e
      simp at hf
      omega
    · rw [hf]; omega
end
section
variable {K : PySem.W.Frag} {vs : List V} {H : Hp} {Q : VK} {E : XK}
theorem pure_is_integer (h : sp_is_integer K vs H Q E) : t_is_integer K (E1 Q) (start ["value"] vs) H := by
  obtain ⟨v, n, rfl, hk, k⟩ := h
  show t_is_integer K (E1 Q) [some v] H
  unfold t_is_integer
  walk_at "go"
  have hn := hk.2
  simp only [KD, List.mem_cons, List.not_mem_nil, or_false] at hn
  rcases hn with rfl | rfl | rfl | rfl | rfl | rfl | rfl
  · refine s_isiK hk (b := true) (by decide +kernel) ?_
    walk_at "go"
    refine s_isiK hk (b := false) (by decide +kernel) ?_
    walk_at "go"
    exact k
  · refine s_isiK hk (b := true) (by decide +kernel) ?_
    walk_at "go"
    refine s_isiK hk (b := true) (by decide +kernel) ?_
    walk_at "go"
    exact k
  all_goals
    refine s_isiK hk (b := false) (by decide +kernel) ?_
    walk_at "go"
    exact k
theorem pure_is_word (h : sp_is_word K vs H Q E) : t_is_word K (E1 Q) (start ["value", "signs", "sign"] vs) H := by
  obtain ⟨v, s, rfl, h⟩ := h
  show t_is_word K (E1 Q) [some v, some (vS s), none] H
  unfold t_is_word
  rcases h with ⟨l, rfl, hl, k⟩ | ⟨n, hk, hn, k⟩
  rotate_left
  · walk_at "go"
    have hb := kitB_str hk.2 hn
    refine s_isiK hk (b := false) hb ?_
    walk_at "go"
    exact k
  walk_at "go"
  refine s_2 (fun hb => ?_) (fun hb => ?_)
  · have hb := of_decide_eq_true hb
    walk_at "go"
    refine s_2 (fun hb2 => ?_) (fun hb2 => ?_)
    · have hb2 : ¬ (l.length : Int) ≤ 600 := by simpa using hb2
      walk_at "go"
      have e : isWord l s = false := by
        unfold isWord
        rw [decide_eq_false (by omega)]
        rfl
      rw [← e]
      exact k _ Ex.rfl
    · have hb2 : (l.length : Int) ≤ 600 := by simpa using hb2
      walk_at "go"
      refine lc_mapS (by omega) (fun _ => true) (fun c => .bl (decide (c ∈ s))) (fun c H4 C1 C0 hc e4 k1 k0 => ?_) (fun D H4 hD e4 hd4 => ?_)
      · refine s_yes ?_
        walk_at "go"
        exact k1 _ Ex.rfl rfl
      · walk_at "go"
        have e : isWord l s = ((l.filter fun _ => true).map fun c => decide (c ∈ s)).all id := by
          unfold isWord
          rw [decide_eq_true (by omega), Bool.true_and, List.all_map, List.filter_eq_self.mpr (by simp)]
          rfl
        refine s_all (bs := (l.filter fun _ => true).map fun c => decide (c ∈ s)) ?_ ?_
        · rw [List.map_map]
          exact SqL.of hd4
        · rw [← e]
          exact k _ e4
  · have hb : ¬ 1 ≤ (l.length : Int) := of_decide_eq_false hb
    refine s_blQ ?_
    walk_at "go"
    have e : isWord l s = false := by
      unfold isWord
      rw [decide_eq_false (by omega)]
      rfl
    rw [← e]
    exact k _ Ex.rfl
variable (F : RingK K)
include F
end
end WB
namespace WB
open PySem PySem.Spec PyProof.Rows L2
local macro_rules | `(tactic| walk_at "lit") => `(tactic| first | exact lit_abc | exact lit_empty)
local macro_rules | `(tactic| walk_at "nm") => `(tactic| focus first | exact List.not_mem_nil | (simp only [List.mem_singleton]; first | assumption | (exact Ne.symm (by assumption)) | (intro hz; subst hz; simp_all; done)))
local macro_rules | `(tactic| walk_at "hp") => `(tactic| first | assumption | (apply Ex.get0 (by assumption); walk_at "hp") | (apply Ex.get (by assumption); (walk_at "nm"); (walk_at "hp")))
local macro_rules | `(tactic| walk_at "sq") => `(tactic| first | assumption | (apply SqL.of; walk_at "hp") | (apply Ex.sqL (by assumption); (walk_at "nm"); (walk_at "sq")))
local macro_rules | `(tactic| walk_at "sqt") => `(tactic| first | assumption | (apply SqT.of; walk_at "hp") | (apply Ex.sqT (by assumption); (walk_at "nm"); (walk_at "sqt")))
local macro_rules | `(tactic| walk_at "sz") => `(tactic| focus ((with_reducible refine Nat.le_trans (m := 100000) ?_ (by decide)); first | omega | (simp; done) | (simp; omega)))
local macro_rules | `(tactic| walk_at "mul") => `(tactic| first | exact Or.inr ⟨by omega, by omega⟩ | exact Or.inl ⟨by omega, by omega⟩)
local macro_rules | `(tactic| walk_at "pool") => `(tactic| first | assumption | (apply PoolAt.ex (by assumption); (walk_at "nm"); (walk_at "pool")))
local macro_rules | `(tactic| walk_at "ring") => `(tactic| first | assumption | (apply RingAt.ex (by assumption); (walk_at "nm"); (walk_at "ring")))
local macro_rules | `(tactic| walk_at "st") => `(tactic| first
  | with_reducible refine s_seq ?_
  | with_reducible refine s_asg ?_
  | with_reducible refine s_gName ?_
  | with_reducible refine s_ret ?_
  | with_reducible refine s_ifS ?_
  | with_reducible refine s_next ?_
  | with_reducible refine s_op ?_
  | ((with_reducible apply s_var); exact rfl)
  | ((with_reducible apply s_cS); (walk_at "lit"))
  | with_reducible refine s_c ?_
  | with_reducible refine s_cb ?_
  | with_reducible refine s_cons ?_
  | with_reducible refine s_nil ?_
  | with_reducible refine s_un ?_
  | with_reducible refine s_call ?_
  | with_reducible refine s_test ?_
  | with_reducible refine s_tB ?_
  | with_reducible refine s_blQ ?_
  | with_reducible refine s_not ?_
  | with_reducible refine s_and ?_
  | with_reducible refine s_or ?_
  | with_reducible refine s_andV ?_
  | with_reducible refine s_orV ?_
  | with_reducible refine s_notV ?_
  | with_reducible refine s_ifE ?_
  | with_reducible refine s_chain ?_
  | ((with_reducible refine s_T ?_ ?_); (with_reducible exact rfl))
  | with_reducible refine s_nT ?_
  | with_reducible refine s_nF ?_
  | ((with_reducible refine s_F ?_ ?_); (with_reducible exact rfl))
  | ((with_reducible refine s_T ?_ ?_); assumption)
  | ((with_reducible refine s_F ?_ ?_); assumption)
  | ((with_reducible refine s_nB ?_ ?_); assumption)
  | ((with_reducible refine s_nA ?_ ?_); assumption)
  | ((with_reducible refine s_Td ?_ ?_); omega)
  | ((with_reducible refine s_Fd ?_ ?_); omega)
  | ((with_reducible refine s_nTd ?_ ?_); omega)
  | ((with_reducible refine s_nFd ?_ ?_); omega)
  | with_reducible refine s_sfld ?_
  | with_reducible refine s_addI ?_
  | with_reducible refine s_subI ?_
  | ((with_reducible refine s_mulI ?_ ?_); (walk_at "mul"))
  | ((with_reducible refine s_divI ?_ ?_); exact ⟨by omega, by omega⟩)
  | ((with_reducible refine s_modI ?_ ?_); omega)
  | ((with_reducible refine s_powI ?_ ?_); exact ⟨by decide, by decide, by decide⟩)
  | with_reducible refine s_ltI ?_
  | with_reducible refine s_leI ?_
  | with_reducible refine s_gtI ?_
  | with_reducible refine s_geI ?_
  | with_reducible refine s_negI ?_
  | with_reducible refine s_absI ?_
  | with_reducible refine s_intI ?_
  | with_reducible refine s_min2 ?_
  | with_reducible refine s_max2 ?_
  | with_reducible refine s_eqI ?_
  | with_reducible refine s_neI ?_
  | with_reducible refine s_eqS ?_
  | with_reducible refine s_neS ?_
  | with_reducible refine s_inSg ?_
  | with_reducible refine s_notInSg ?_
  | ((with_reducible refine s_addS ?_ ?_); (walk_at "sz"))
  | ((with_reducible refine s_lenS ?_ ?_); (walk_at "sz"))
  | ((with_reducible apply s_lenL); (walk_at "sq"))
  | ((with_reducible apply s_lenT); (walk_at "sqt"))
  | ((with_reducible apply s_ixL); (walk_at "sq"); exact rfl)
  | ((with_reducible apply s_ixT); (walk_at "sqt"); exact rfl)
  | with_reducible refine s_gSub ?_
  | ((with_reducible apply s_setL); (walk_at "hp"); (exact rfl); (intro _ _ _))
  | ((with_reducible refine s_alloc ?_ ?_); (walk_at "sz"); (intro _ _ _ _ _))
  | ((with_reducible refine s_divmod ?_ ?_); (exact ⟨by omega, PyProof.noPylong_small (by omega)⟩); (intro _ _ _ _ _))
  | ((with_reducible apply s_gTup); (walk_at "sqt"); (exact rfl))
  | ((with_reducible apply s_gLst); (walk_at "sq"); (exact rfl))
  | with_reducible refine s_gCons ?_
  | with_reducible refine s_gNil ?_
  | with_reducible refine s_lc ?_
  | ((with_reducible apply s_cat); (walk_at "hp"); (walk_at "hp"); (walk_at "sz"); (intro _ _ _ _ _))
  | ((with_reducible apply s_slL); (walk_at "sq"); (intro _ _ _ _ _))
  | with_reducible refine s_for ?_
  | with_reducible refine s_rng1 ?_
  | ((with_reducible refine s_rng1i ?_ ?_); (constructor <;> omega))
  | with_reducible refine s_rng2 ?_
  | ((with_reducible refine s_rng2i ?_ ?_); (refine ⟨?_, ?_, ?_, ?_⟩ <;> omega))
  | with_reducible refine s_iStr ?_
  | with_reducible refine s_iStrS ?_
  | with_reducible refine s_iList ?_
  | ((with_reducible apply s_iListA); (walk_at "sq"))
  | with_reducible refine s_iTup ?_
  | ((with_reducible apply s_iTupA); (walk_at "sqt"))
  | with_reducible refine s_sl ?_
  | with_reducible refine s_noPart ?_
  | with_reducible refine s_part ?_
  | with_reducible refine s_int1 ?_
  | ((with_reducible refine s_slS ?_ ?_); (walk_at "sz"))
  | with_reducible refine s_tup ?_
  | with_reducible refine s_lst ?_
  | with_reducible refine s_par ?_
  | with_reducible refine s_pair ?_
  | with_reducible refine s_M1 ?_
  | with_reducible refine s_isStr ?_
  | with_reducible refine s_revS ?_
  | ((with_reducible refine s_revS1 ?_ ?_); (walk_at "sz"))
  | with_reducible refine s_fldE ?_
  | with_reducible refine s_propE ?_
  | ((with_reducible refine u_draw ?_ ?_ ?_ ?_); omega; omega; (walk_at "pool"); (intro _ _ _ _ _ _))
  | ((with_reducible refine u_pool ?_); (intro _ _ _ _ _))
  | with_reducible refine u_is_integer ?_
  | with_reducible refine s_isiII ?_
  | with_reducible refine s_isiIB ?_
  | with_reducible refine s_isiSS ?_
  | ((with_reducible apply u_fldRing); assumption; (walk_at "ring"))
  | ((with_reducible apply u_textP); (walk_at "ring"))
  | ((with_reducible apply u_strRing); (walk_at "ring"))
  | ((with_reducible apply u_eqRing); (walk_at "ring"); (walk_at "ring"))
  | ((with_reducible apply u_isiRing); assumption; (walk_at "ring"))
  | ((with_reducible refine u_is_word ?_ ?_); omega; (intro _ _))
  | ((with_reducible refine u_turnings ?_ ?_); omega; (intro _ _ _ _ _))
  | with_reducible refine s_makeE ?_
  | with_reducible refine s_methE ?_)
local macro_rules | `(tactic| walk_at "go") => `(tactic| repeat (walk_at "st"))
local macro_rules | `(tactic| walk_at "exs") => `(tactic| first | exact Ex.rfl | assumption | (apply Ex.snoc (by assumption); walk_at "exs") | (apply Ex.snocW (by assumption); walk_at "exs"))
def t_is_row (K : PySem.W.Frag) : TS :=
  (tRet (tAndV (tCB (rIsi K) (tCons (tVar 0) (tCons (tC (.ty "tuple")) tNil))) (tOp rEq (tCB (rLenV K) (tCons (tVar 0) tNil)) (tVar 1))))
section
variable {K : PySem.W.Frag} {vs : List V} {H : Hp} {Q : VK} {E : XK}
theorem pure_is_row (h : sp_is_row K vs H Q E) : t_is_row K (E1 Q) (start ["value", "length"] vs) H := by
  obtain ⟨v, m, rfl, h⟩ := h
  show t_is_row K (E1 Q) [some v, some (.int m)] H
  unfold t_is_row
  walk_at "go"
  rcases h with ⟨a, xs, rfl, hs, k⟩ | ⟨n, hk, hn, k⟩
  · refine s_isiK (Kd.tup hs) (b := true) (by decide +kernel) ?_
    walk_at "go"
    exact k
  · have hm := hk.2
    simp only [KD, List.mem_cons, List.not_mem_nil, or_false] at hm
    rcases hm with rfl | rfl | rfl | rfl | rfl | rfl | rfl
    all_goals first
      | exact absurd rfl hn
      | (refine s_isiK hk (b := false) (by decide +kernel) ?_
         walk_at "go"
         exact k)
variable (F : RingK K)
include F
end
end WB
namespace WB
open PySem PySem.Spec PyProof.Rows L2
local macro_rules | `(tactic| walk_at "lit") => `(tactic| first | exact lit_abc | exact lit_empty)
local macro_rules | `(tactic| walk_at "nm") => `(tactic| focus first | exact List.not_mem_nil | (simp only [List.mem_singleton]; first | assumption | (exact Ne.symm (by assumption)) | (intro hz; subst hz; simp_all; done)))
local macro_rules | `(tactic| walk_at "hp") => `(tactic| first | assumption | (apply Ex.get0 (by assumption); walk_at "hp") | (apply Ex.get (by assumption); (walk_at "nm"); (walk_at "hp")))
local macro_rules | `(tactic| walk_at "sq") => `(tactic| first | assumption | (apply SqL.of; walk_at "hp") | (apply Ex.sqL (by assumption); (walk_at "nm"); (walk_at "sq")))
local macro_rules | `(tactic| walk_at "sqt") => `(tactic| first | assumption | (apply SqT.of; walk_at "hp") | (apply Ex.sqT (by assumption); (walk_at "nm"); (walk_at "sqt")))
local macro_rules | `(tactic| walk_at "sz") => `(tactic| focus ((with_reducible refine Nat.le_trans (m := 100000) ?_ (by decide)); first | omega | (simp; done) | (simp; omega)))
local macro_rules | `(tactic| walk_at "mul") => `(tactic| first | exact Or.inr ⟨by omega, by omega⟩ | exact Or.inl ⟨by omega, by omega⟩)
local macro_rules | `(tactic| walk_at "pool") => `(tactic| first | assumption | (apply PoolAt.ex (by assumption); (walk_at "nm"); (walk_at "pool")))
local macro_rules | `(tactic| walk_at "ring") => `(tactic| first | assumption | (apply RingAt.ex (by assumption); (walk_at "nm"); (walk_at "ring")))
local macro_rules | `(tactic| walk_at "st") => `(tactic| first
  | with_reducible refine s_seq ?_
  | with_reducible refine s_asg ?_
  | with_reducible refine s_gName ?_
  | with_reducible refine s_ret ?_
  | with_reducible refine s_ifS ?_
  | with_reducible refine s_next ?_
  | with_reducible refine s_op ?_
  | ((with_reducible apply s_var); exact rfl)
  | ((with_reducible apply s_cS); (walk_at "lit"))
  | with_reducible refine s_c ?_
  | with_reducible refine s_cb ?_
  | with_reducible refine s_cons ?_
  | with_reducible refine s_nil ?_
  | with_reducible refine s_un ?_
  | with_reducible refine s_call ?_
  | with_reducible refine s_test ?_
  | with_reducible refine s_tB ?_
  | with_reducible refine s_blQ ?_
  | with_reducible refine s_not ?_
  | with_reducible refine s_and ?_
  | with_reducible refine s_or ?_
  | with_reducible refine s_andV ?_
  | with_reducible refine s_orV ?_
  | with_reducible refine s_notV ?_
  | with_reducible refine s_ifE ?_
  | with_reducible refine s_chain ?_
  | ((with_reducible refine s_T ?_ ?_); (with_reducible exact rfl))
  | with_reducible refine s_nT ?_
  | with_reducible refine s_nF ?_
  | ((with_reducible refine s_F ?_ ?_); (with_reducible exact rfl))
  | ((with_reducible refine s_T ?_ ?_); assumption)
  | ((with_reducible refine s_F ?_ ?_); assumption)
  | ((with_reducible refine s_nB ?_ ?_); assumption)
  | ((with_reducible refine s_nA ?_ ?_); assumption)
  | ((with_reducible refine s_Td ?_ ?_); omega)
  | ((with_reducible refine s_Fd ?_ ?_); omega)
  | ((with_reducible refine s_nTd ?_ ?_); omega)
  | ((with_reducible refine s_nFd ?_ ?_); omega)
  | with_reducible refine s_sfld ?_
  | with_reducible refine s_addI ?_
  | with_reducible refine s_subI ?_
  | ((with_reducible refine s_mulI ?_ ?_); (walk_at "mul"))
  | ((with_reducible refine s_divI ?_ ?_); exact ⟨by omega, by omega⟩)
  | ((with_reducible refine s_modI ?_ ?_); omega)
  | ((with_reducible refine s_powI ?_ ?_); exact ⟨by decide, by decide, by decide⟩)
  | with_reducible refine s_ltI ?_
  | with_reducible refine s_leI ?_
  | with_reducible refine s_gtI ?_
  | with_reducible refine s_geI ?_
  | with_reducible refine s_negI ?_
  | with_reducible refine s_absI ?_
  | with_reducible refine s_intI ?_
  | with_reducible refine s_min2 ?_
  | with_reducible refine s_max2 ?_
  | with_reducible refine s_eqI ?_
  | with_reducible refine s_neI ?_
  | with_reducible refine s_eqS ?_
  | with_reducible refine s_neS ?_
  | with_reducible refine s_inSg ?_
  | with_reducible refine s_notInSg ?_
  | ((with_reducible refine s_addS ?_ ?_); (walk_at "sz"))
  | ((with_reducible refine s_lenS ?_ ?_); (walk_at "sz"))
  | ((with_reducible apply s_lenL); (walk_at "sq"))
  | ((with_reducible apply s_lenT); (walk_at "sqt"))
  | ((with_reducible apply s_ixL); (walk_at "sq"); exact rfl)
  | ((with_reducible apply s_ixT); (walk_at "sqt"); exact rfl)
  | with_reducible refine s_gSub ?_
  | ((with_reducible apply s_setL); (walk_at "hp"); (exact rfl); (intro _ _ _))
  | ((with_reducible refine s_alloc ?_ ?_); (walk_at "sz"); (intro _ _ _ _ _))
  | ((with_reducible refine s_divmod ?_ ?_); (exact ⟨by omega, PyProof.noPylong_small (by omega)⟩); (intro _ _ _ _ _))
  | ((with_reducible apply s_gTup); (walk_at "sqt"); (exact rfl))
  | ((with_reducible apply s_gLst); (walk_at "sq"); (exact rfl))
  | with_reducible refine s_gCons ?_
  | with_reducible refine s_gNil ?_
  | with_reducible refine s_lc ?_
  | ((with_reducible apply s_cat); (walk_at "hp"); (walk_at "hp"); (walk_at "sz"); (intro _ _ _ _ _))
  | ((with_reducible apply s_slL); (walk_at "sq"); (intro _ _ _ _ _))
  | with_reducible refine s_for ?_
  | with_reducible refine s_rng1 ?_
  | ((with_reducible refine s_rng1i ?_ ?_); (constructor <;> omega))
  | with_reducible refine s_rng2 ?_
  | ((with_reducible refine s_rng2i ?_ ?_); (refine ⟨?_, ?_, ?_, ?_⟩ <;> omega))
  | with_reducible refine s_iStr ?_
  | with_reducible refine s_iStrS ?_
  | with_reducible refine s_iList ?_
  | ((with_reducible apply s_iListA); (walk_at "sq"))
  | with_reducible refine s_iTup ?_
  | ((with_reducible apply s_iTupA); (walk_at "sqt"))
  | with_reducible refine s_sl ?_
  | with_reducible refine s_noPart ?_
  | with_reducible refine s_part ?_
  | with_reducible refine s_int1 ?_
  | ((with_reducible refine s_slS ?_ ?_); (walk_at "sz"))
  | with_reducible refine s_tup ?_
  | with_reducible refine s_lst ?_
  | with_reducible refine s_par ?_
  | with_reducible refine s_pair ?_
  | with_reducible refine s_M1 ?_
  | with_reducible refine s_isStr ?_
  | with_reducible refine s_revS ?_
  | ((with_reducible refine s_revS1 ?_ ?_); (walk_at "sz"))
  | with_reducible refine s_fldE ?_
  | with_reducible refine s_propE ?_
  | ((with_reducible refine u_draw ?_ ?_ ?_ ?_); omega; omega; (walk_at "pool"); (intro _ _ _ _ _ _))
  | ((with_reducible refine u_pool ?_); (intro _ _ _ _ _))
  | with_reducible refine u_is_integer ?_
  | with_reducible refine s_isiII ?_
  | with_reducible refine s_isiIB ?_
  | with_reducible refine s_isiSS ?_
  | ((with_reducible apply u_fldRing); assumption; (walk_at "ring"))
  | ((with_reducible apply u_textP); (walk_at "ring"))
  | ((with_reducible apply u_strRing); (walk_at "ring"))
  | ((with_reducible apply u_eqRing); (walk_at "ring"); (walk_at "ring"))
  | ((with_reducible apply u_isiRing); assumption; (walk_at "ring"))
  | ((with_reducible refine u_is_word ?_ ?_); omega; (intro _ _))
  | ((with_reducible refine u_turnings ?_ ?_); omega; (intro _ _ _ _ _))
  | with_reducible refine s_makeE ?_
  | with_reducible refine s_methE ?_)
local macro_rules | `(tactic| walk_at "go") => `(tactic| repeat (walk_at "st"))
local macro_rules | `(tactic| walk_at "exs") => `(tactic| first | exact Ex.rfl | assumption | (apply Ex.snoc (by assumption); walk_at "exs") | (apply Ex.snocW (by assumption); walk_at "exs"))
local macro_rules | `(tactic| walk_at "kind") => `(tactic| first | assumption | (apply KindAt.ex0 (by assumption); (walk_at "kind")) | (apply KindAt.exP (by assumption) (by assumption); (walk_at "kind")))
local macro_rules | `(tactic| walk_at "st") => `(tactic| first
  | with_reducible refine s_lenSet ?_
  | with_reducible refine s_drop ?_
  | with_reducible refine s_bm ?_
  | with_reducible refine s_notN ?_
  | with_reducible refine s_isN ?_
  | ((with_reducible apply s_tyL); (walk_at "hp"))
  | with_reducible refine s_enumT ?_
  | ((with_reducible apply s_enumTA); (walk_at "sqt"))
  | with_reducible refine s_lc2 ?_)
def t_check_signs (K : PySem.W.Frag) : TS :=
  (tIfS (tOr (tNot (tB (tCall (sp_is_word K) [(vS LET)] E0 (tCons (tVar 0) tNil)))) (tOr (tTest (tOp rGtI (tCB (rLenV K) (tCons (tVar 0) tNil)) (tC (.int 4)))) (tTest (tOp rLtI (tLenSetS K (tVar 0)) (tCB (rLenV K) (tCons (tVar 0) tNil)))))) tNever tNext)
section
variable {K : PySem.W.Frag} {vs : List V} {H : Hp} {Q : VK} {E : XK}
theorem pure_check_signs (h : sp_check_signs K vs H Q E) : t_check_signs K (E1 Q) (start ["signs"] vs) H := by
  obtain ⟨s, rfl, ⟨hw, h4, hn⟩, k⟩ := h
  have hl := isWord_len hw
  show t_check_signs K (E1 Q) [some (vS s)] H
  unfold t_check_signs
  walk_at "go"
  rename_i H1 e1
  refine s_setNS (by omega) ?_
  have en : ndc s.reverse = s.length := by rw [← List.length_reverse]; exact (ndc_full _).mpr ((List.reverse_perm s).nodup_iff.mpr hn)
  rw [en]
  walk_at "go"
  exact k _ e1
variable (FR : RingK K) (F : KindK K)
include F
include FR
end
end WB
namespace WB
open PySem PySem.Spec PyProof.Rows L2
section
variable {X : Cx}
theorem dsetT {pins : List (Addr × Obj)} {σ : L2.St} {H : Hp} {s : Shared} {E : Value → Shared → Prop} {D b : Addr} {kvs : List (List Key × V)} {k : List Key} {v : V} {r : Value} {Q : Unit → Shared → Prop} (hu : X.A.units + 1 < cLine) (J : Inv X pins σ H s) (hD : H D = some (.dT kvs)) (hb : H b = some (.tup (k.map kV))) (hz : kvs.length < sizeLine)
    (rv : RelV v r) (q : ∀ s', Inv X pins σ (upd H D (.dT (putK kvs k v))) s' → Q () s') : wpAny (model X.prog X.w) X.A (dictSet D (.ref b) r) Q E s := by
  obtain ⟨z, y, xs, rel, dd⟩ := dt_of J.hok hD
  have hl : (putK kvs k v).length ≤ sizeLine := by have := length_putK kvs k v; omega
  refine wpAny_dictSet_heap (hsz := by rw [← Paired.length rel]; exact z) (show X.A.units < cLine by omega) (key_of J.hok hb) dd fun h' d2 sb => q _ ?_
  obtain ⟨o, es, ep, g1, g2, g3, g4, _, g5⟩ := d2
  refine d_write J (by rw [hD]; exact True.intro) sb ⟨o, g1⟩ ⟨hl, y, _, (rel.put k hb rv).keeps fun c ys ec => ?_, o, es, ep, g1, g2, g3, g4, g5⟩
  rw [upd_ne (ne_of ec hD (fun z => nomatch z))]
  exact ec
def tDcT (wi : TI) (g : TG) (tt : TT) (tk tv : TE) (vs : List Nat) : TE := fun σ H Q => wi σ H fun J H1 => ∀ D, H1 D = none → ∃ W : Nat → Nat → Hp → Prop, (∃ m, W 0 m (upd H1 D (.dT []))) ∧ ∀ i m H, W i m H →
  (J.stop i H ∧ Q (.ref D) H) ∨ (J.go i H ∧ ∃ Nx : Hp → Prop, (∀ H', Nx H' → ∃ m', m' < m ∧ W (i + 1) m' H') ∧ ∀ x H', J.yld i H x H' → g x (wipe σ vs) H' fun σ2 H2 => wipe σ2 vs = wipe σ vs ∧ tt σ2 H2 fun c H3 =>
    if c = true then tk σ2 H3 fun y H4 => tv σ2 H4 fun z H5 => ∃ kvs k b, y = .ref b ∧ H5 b = some (.tup (k.map kV)) ∧ H5 D = some (.dT kvs) ∧ kvs.length < sizeLine ∧ Nx (upd H5 D (.dT (putK kvs k z))) else Nx H3)
theorem pe_dcT {kx vx tg iter : Expr} {ifs : List Expr} {scope : Scope} {own : List (Str × Nat)} {pos : Pos} {wi : TI} {g : TG} {tt : TT} {tk tv : TE} (hc : X.calm = true) (hu : X.A.units + 1 < cLine) (hN : X.N.Nodup) (hi : PI X tg iter wi) (ok : BlkOk X.N X.env.scope scope own)
    (hg : ∀ (r : Shared) (G : Hp) (C : Addr) (cl : List (Str × Addr)) (fp : List Addr), PG (X.blk r G scope (compEnvC scope cl C X.env) fp) tg g) (ht : ∀ (r : Shared) (G : Hp) (C : Addr) (cl : List (Str × Addr)) (fp : List Addr), PTs (X.blk r G scope (compEnvC scope cl C X.env) fp) ifs tt)
    (hk : ∀ (r : Shared) (G : Hp) (C : Addr) (cl : List (Str × Addr)) (fp : List Addr), PE (X.blk r G scope (compEnvC scope cl C X.env) fp) kx tk) (hv : ∀ (r : Shared) (G : Hp) (C : Addr) (cl : List (Str × Addr)) (fp : List Addr), PE (X.blk r G scope (compEnvC scope cl C X.env) fp) vx tv)
    (hfs : ∀ x, foldedSetIterable iter X.env x = pure x := by intro _; rfl) : PE X (.DictComp kx vx [⟨tg, iter, ifs, 0⟩] scope pos) (tDcT wi g tt tk tv (own.map (·.2))) := by
  refine ⟨fun pins s σ H Q I0 h => ?_⟩
  rw [arm_eval_DictComp]
  have free : ∀ y ∈ scope.names, y.2 = .free → ∃ c, X.env.cells.lookup y.1 = some c := fun y hy e => (ok.free y hy e).elim (fun k => I0.ok.has _ (.inl k)) fun k => I0.ok.has _ (.inr k)
  refine wpAny_comprehension_free rfl hfs (closure_ok free) ok.kind (fun y hy e => by rw [ok.uniq y hy, e]) (thn (hi.run pins s σ H _ I0 h) fun _ r1 hx => thn hx fun _ r2 h2 => ?_)
  obtain ⟨it, fp, tn, J, G2, rfl, I2, T, t2, f2, q⟩ := h2
  refine wpAny_newObj_type (newEnv_comp ?_)
  obtain ⟨W, ⟨m0, w0⟩, turn⟩ := q r2.heap.objs.size (I2.hok.fresh (Nat.le_refl _))
  generalize er3 : ({ r2 with heap := r2.heap.push { cls := .type "dict", data := .dict #[] } } : Shared) = r3
  have I3 : Inv X pins σ (upd G2 r2.heap.objs.size (.dT [])) r3 := by
    subst er3
    exact I2.laid (t' := r2.toks) (fun b o e => Heap.get?_push_of_some _ e) (Nat.le_refl _) (dt_empty r2.heap I2.big)
  have up3 : ∀ b o, r2.heap.get? b = some o → r3.heap.get? b = some o := fun b o e => by subst er3; exact Heap.get?_push_of_some _ e
  have lt2 : ∀ b ∈ fp, b < r2.heap.objs.size := fun b hb => let ⟨_, e, _⟩ := T.obj _ _ t2 b hb; Heap.lt_size e
  have f3 : ∀ b ∈ fp, FpOk X pins (upd G2 r2.heap.objs.size (.dT [])) b ∧ b < r3.heap.objs.size := fun b hb =>
    ⟨⟨by rw [upd_ne (Nat.ne_of_lt (lt2 b hb))]; exact (f2 b hb).1, (f2 b hb).2⟩, let ⟨_, e, _⟩ := T.obj _ _ t2 b hb; Heap.lt_size (up3 b _ e)⟩
  have B4 := block_start I3 ok hN f3
  have n3 : ∀ b ∈ fp, (upd G2 r2.heap.objs.size (.dT [])) b = none := fun b hb => (f3 b hb).1.1
  have t3 : tn 0 r3.heap := T.keep _ _ _ t2 fun b _ o e => up3 b o e
  generalize r2.heap.objs.size = D at *
  generalize upd G2 D (.dT []) = G3 at *
  have p1 := hg r3 G3 r3.heap.objs.size (cellsFrom (r3.heap.objs.size + 1) scope.names (cloFrom X.env.cells scope.names [])) fp
  have p2 := ht r3 G3 r3.heap.objs.size (cellsFrom (r3.heap.objs.size + 1) scope.names (cloFrom X.env.cells scope.names [])) fp
  have p3 := hk r3 G3 r3.heap.objs.size (cellsFrom (r3.heap.objs.size + 1) scope.names (cloFrom X.env.cells scope.names [])) fp
  have p4 := hv r3 G3 r3.heap.objs.size (cellsFrom (r3.heap.objs.size + 1) scope.names (cloFrom X.env.cells scope.names [])) fp
  show codeAny _ _ (.compStart _ 0 (.ref it) (.ref D) (compEnvC scope (cellsFrom (r3.heap.objs.size + 1) scope.names (cloFrom X.env.cells scope.names [])) r3.heap.objs.size X.env)) _ { r3 with heap := pushCells (r3.heap.push { cls := .type "dict", data := .dict #[] }) scope.names }
  have eL : (compEnvC scope (cellsFrom (r3.heap.objs.size + 1) scope.names (cloFrom X.env.cells scope.names [])) r3.heap.objs.size X.env).locals = r3.heap.objs.size := rfl
  generalize compEnvC scope (cellsFrom (r3.heap.objs.size + 1) scope.names (cloFrom X.env.cells scope.names [])) r3.heap.objs.size X.env = ce at B4 p1 p2 p3 p4 eL ⊢
  have t4 : tn 0 (pushCells (r3.heap.push { cls := .type "dict", data := .dict #[] }) scope.names) := T.keep _ _ _ t3 fun b _ o e => pushCells_keeps _ _ _ _ (Heap.get?_push_of_some _ e)
  generalize er4 : ({ r3 with heap := pushCells (r3.heap.push { cls := .type "dict", data := .dict #[] }) scope.names } : Shared) = r4 at B4 ⊢
  have t4' : tn 0 r4.heap := by rw [← er4]; exact t4
  have fpk : ∀ {τ : L2.St} {G : Hp} {r : Shared}, Inv (X.blk r3 G3 scope ce fp) [] τ G r → (∀ b ∈ fp, G b = none) → ∀ b ∈ fp, FpOk (X.blk r3 G3 scope ce fp) [] G b := fun {τ G r} B hn b hb =>
    ⟨hn b hb, (B.ok.exf b hb).1, B.ok.exfs b hb, .inl hb, fun x c e => (B.ok.exf b hb).2 x c e, fun p hp => absurd (show p ∈ ([] : List (Addr × Obj)) ++ [] from hp) (by simp)⟩
  refine codeAny_compStart_dict ?loop (T.self X.A 0 _ _ _ t4' ?loop)
  case loop =>
    refine compLoop_anyD (fun n r => ∃ i G, Inv (X.blk r3 G3 scope ce fp) [] (wipe σ (own.map (·.2))) G r ∧ tn i r.heap ∧ (∀ b ∈ fp, G b = none) ∧ W i n G) ?_ m0 ⟨0, G3, B4, t4', n3, w0⟩
    rintro n r5 ⟨i, G5, B5, t5, n5, w5⟩
    rcases turn i n G5 w5 with ⟨stop, fin⟩ | ⟨go, Nx, hNx, step⟩
    · refine thnF (T.done (X.blk r3 G3 scope ce fp) rfl rfl rfl hc i [] r5 _ G5 (fun _ _ => False) B5 (fpk B5 n5) t5 stop) fun o r6 ⟨eo, B6⟩ => ?_
      subst eo
      have I7 : Inv X pins σ G5 r6 := I3.call' (ch := fp) B6.os B6.base B6.hok B6.bare fun b hb => let z := (f3 b hb).1.2; ⟨z.2.2.1, z.1, z.2.2.2.1, z.2.2.2.2⟩
      obtain ⟨m, hn, _⟩ := B6.loc
      have fr : G5 ce.locals = none := B6.free
      have hn : r6.heap.Ns ce.locals m := hn
      rw [eL] at fr hn
      obtain ⟨f0, f1, _, g3, g4, g5⟩ := I3.fpOk (Nat.le_refl _) fr
      exact ⟨m, hn, fun h'' sb => ⟨.ref D, G5, I7.turned (t' := r6.toks) (fun b o hb e => (sb.2 b hb).trans e) f0 f1 g3 g4 g5, rfl, fin⟩⟩
    · refine thnF (T.item (X.blk r3 G3 scope ce fp) rfl rfl rfl hc i [] r5 _ G5 (fun _ _ => False) B5 (fpk B5 n5) t5 go) fun o r6 ⟨u, eo, h6⟩ => ?_
      subst eo
      refine thnF h6 fun _ r7 ⟨x, G7, B7, rx, y7, t7, n7⟩ => ?_
      refine thnF (p1.run _ r7 _ G7 x u _ (B7.pinned (fpk B7 n7) (T.obj _ _ t7)) rx (step x G7 y7)) fun _ r8 ⟨τ, G8, B8, hw, q8⟩ => ?_
      refine thnF (p2.run _ r8 τ G8 _ B8 q8) fun c r9 ⟨G9, B9, q9⟩ => ?_
      have back : ∀ {r : Shared} {G : Hp}, Inv (X.blk r3 G3 scope ce fp) ([] ++ pinsAt fp r7.heap) τ G r → Nx G → ∃ m, m < n ∧ ∃ i G, Inv (X.blk r3 G3 scope ce fp) [] (wipe σ (own.map (·.2))) G r ∧ tn i r.heap ∧ (∀ b ∈ fp, G b = none) ∧ W i m G := fun {r G} B nx => by
        obtain ⟨m', lt, w'⟩ := hNx G nx
        have pin : ∀ b ∈ fp, ∀ o, r7.heap.get? b = some o → r.heap.get? b = some o ∧ G b = none := fun b hb o e => let z := B.pin (b, o) (List.mem_append_right _ (List.mem_append_right _ (mem_pinsAt hb e))); ⟨z.1, z.2.1⟩
        refine ⟨m', lt, i + 1, G, (B.unpinned (pins := [])).weak (by rw [← hw, wipe_length]) (fun j v e => ?_), T.keep _ _ _ t7 fun b hb o e => (pin b hb o e).1, fun b hb => let ⟨o, e, _⟩ := T.obj _ _ t7 b hb; (pin b hb o e).2, w'⟩
        rw [← hw] at e
        exact (wipe_some e).1
      cases c with
      | false => exact back B9 (by simpa using q9)
      | true =>
        have q9 := (show tk τ G9 _ by simpa using q9)
        refine thnF (p3.run _ r9 τ G9 _ B9 q9) fun z r10 ⟨yk, G10, B10, ry, q10⟩ => ?_
        refine thnF (p4.run _ r10 τ G10 _ B10 q10) fun z2 r11 ⟨yv, G11, B11, rz, kvs, k, b, ek, hb, hD, hz, nx⟩ => ?_
        subst ek
        cases ry
        exact dsetT (X := X.blk r3 G3 scope ce fp) hu B11 hD hb hz rz fun r12 B12 => back B12 nx
end
end WB
namespace WB
open PySem PySem.Spec PyProof.Rows L2
def pick1 {α : Type} (k i : Nat) (vs ds mz zs : List α) : Option α := match k with
  | 0 => vs[i]?
  | 1 => ds[i]?
  | 2 => zs[i]?
  | _ => mz[i]?
def selG {α : Type} : List (Nat × Nat) → List α → List α → List α → List α → List α
  | [], _, _, _, _ => []
  | (k, i) :: ss, vs, ds, mz, zs => (pick1 k i vs ds mz zs).toList ++ selG ss vs ds mz zs
theorem vals_opt {vs : List V} {us : List Value} (r : Vals vs us) (i : Nat) : (vs[i]? = none ∧ us[i]? = none) ∨ ∃ v u, vs[i]? = some v ∧ us[i]? = some u ∧ RelV v u := by
  cases h : vs[i]? with
  | none =>
    refine .inl ⟨rfl, ?_⟩
    rw [List.getElem?_eq_none_iff] at h ⊢
    rw [← r.length]; exact h
  | some v =>
    obtain ⟨u, h1, h2⟩ := r.get h
    exact .inr ⟨v, u, rfl, h1, h2⟩
theorem opt_rel {vs : List V} {us : List Value} (r : Vals vs us) (i : Nat) : Vals vs[i]?.toList us[i]?.toList := by
  rcases vals_opt r i with ⟨e1, e2⟩ | ⟨v, u, e1, e2, rv⟩
  · rw [e1, e2]; exact .nil
  · rw [e1, e2]; exact .cons rv .nil
theorem sel_rel : ∀ (ss : List (Nat × Nat)) {vs ds mz zs : List V} {us its mv ws : List Value}, Vals vs us → Vals ds its → Vals mz mv → Vals zs ws → Vals (selG ss vs ds mz zs) (selG ss us its mv ws)
  | [], _, _, _, _, _, _, _, _, _, _, _, _ => .nil
  | (0, i) :: ss, _, _, _, _, _, _, _, _, r1, r2, r3, r4 => (opt_rel r1 i).append (sel_rel ss r1 r2 r3 r4)
  | (1, i) :: ss, _, _, _, _, _, _, _, _, r1, r2, r3, r4 => (opt_rel r2 i).append (sel_rel ss r1 r2 r3 r4)
  | (2, i) :: ss, _, _, _, _, _, _, _, _, r1, r2, r3, r4 => (opt_rel r4 i).append (sel_rel ss r1 r2 r3 r4)
  | (_ + 3, i) :: ss, _, _, _, _, _, _, _, _, r1, r2, r3, r4 => (opt_rel r3 i).append (sel_rel ss r1 r2 r3 r4)
section
variable {K : PySem.W.Frag} {x qual : Str} {params : Arguments} {body : List Stmt} {scope : Scope} {dvs : List V} {kws : List (Str × V)} {f : Addr} {fd : FuncData} {ps : List Str}
theorem kbnD (F : FunD K x qual params body scope dvs kws f fd) (n : Nat) (ks : List Str) (ss : List (Nat × Nat)) (hd : dvs ≠ [])
    (h : ∀ (T : Addr) (kV doc pm : Value) (an : Option Addr) (cdv ct : Value) (us its ws : List Value), us.length = n → its.length = dvs.length → ws.length = ks.length →
      ∃ k, bindArgs (PySem.W.fnOf x qual params body scope (.ref T) kV doc pm an cdv ct) ⟨us, ks.zip ws⟩ = seqItems? (.ref T) >>= k ∧ k (some its.toArray) = pure (ps.zip (selG ss us its [] ws))) :
    ∃ g, KBn K fd ps n ks g (fun vs zs => selG ss vs dvs [] zs) := by
  obtain ⟨its, hb⟩ := FunD.kbindsD F n ks (fun vs ds zs => selG ss vs ds [] zs) hd (fun r1 r2 r3 => sel_rel ss r1 r2 .nil r3) h
  exact ⟨_, hb⟩
theorem kbnK (F : FunD K x qual params body scope dvs kws f fd) (n : Nat) (ks : List Str) (ms : List (Str × V)) (ss : List (Nat × Nat)) (hd : dvs ≠ []) (hk : kws ≠ []) (hms : ∀ q ∈ ms, q ∈ kws)
    (h : ∀ (T D : Addr) (doc pm : Value) (an : Option Addr) (cdv ct : Value) (us its mv ws : List Value), us.length = n → its.length = dvs.length → mv.length = ms.length → ws.length = ks.length →
      ∃ k, bindArgs (PySem.W.fnOf x qual params body scope (.ref T) (.ref D) doc pm an cdv ct) ⟨us, ks.zip ws⟩ = seqItems? (.ref T) >>= k ∧ KwChain D ((ms.map (·.1)).zip mv) (k (some its.toArray)) (ps.zip (selG ss us its mv ws))) :
    ∃ g, KBn K fd ps n ks g (fun vs zs => selG ss vs dvs (ms.map (·.2)) zs) := by
  obtain ⟨its, mv, hb⟩ := FunD.kbinds F n ks ms (fun vs ds mz zs => selG ss vs ds mz zs) hd hk hms (fun r1 r2 r3 r4 => sel_rel ss r1 r2 r3 r4) h
  exact ⟨_, hb⟩
end
def MakeKG (C : Addr) (n m : Nat) (sp : Sp) (gV : List V → List V → List V) (E : XK) (vs zs : List V) (H : Hp) (Q : VK) : Prop := vs.length = n ∧ zs.length = m ∧ ∀ x dx, H x = none → H dx = none → dx ≠ x → sp (gV (.ref x :: vs) zs) (upd (upd H dx (.own x)) x (.ins C dx [])) (fun v H3 => v = .non ∧ Q (.ref x) H3) E
theorem s_makeK {C : Addr} {n m : Nat} {sp : Sp} {gV : List V → List V → List V} {E : XK} {t tk : TA} {σ : L2.St} {H : Hp} {Q : VK} (k : t σ H fun vs H1 => tk σ H1 fun zs H2 => MakeKG C n m sp gV E vs zs H2 Q) : tMakeK C n m sp gV E t tk σ H Q := k
end WB
namespace WB
open PySem PySem.Spec PyProof.Rows L2 ClX
section
variable {X : Cx} {CX : CXT} {k n : Nat} {C p g : Addr} {fd : FuncData} {ps ks : List Str} {mc : Value} {sp : Sp} {E : XK} {o e : Expr} {es : List Expr} {f m x : Str} {pos apos q1 : Pos} {ta : TE} {t tk : TA} {pl : Sem Bool} {kws : List Keyword} {gS : List Value → List Value → List Value} {gV : List V → List V → List V} {dvs : List V} {ds : List Value}
def tCMethK (C : Addr) (n : Nat) (sp : Sp) (gV : List V → List V → List V) (E : XK) (ta : TE) (tk : TA) : TE := fun σ H Q => ta σ H fun x H1 => x = .ref C ∧ tk σ H1 fun zs H2 => zs.length = n ∧ sp (gV [.ref C] zs) H2 Q E
end
end WB
namespace WB
open PySem PySem.Spec PyProof.Rows L2
section
variable {K : PySem.W.Frag} {H H' : Hp} {a b p : Addr} {l l' : List Nat} {ps ps' : List (List Nat)} {Q : VK} {E : XK}
def sp_Kind_signs (K : PySem.W.Frag) : Sp := fun vs H Q _ => ∃ a : Addr, vs = [.ref a] ∧ ∃ l ps, KindAt K H a l ps ∧ Q (vS l) H
def RowAt (K : PySem.W.Frag) (H : Hp) (q : Addr) (l : List Nat) (ps : List (List Nat)) : Prop := ∃ t, SqT K H q [vS l, .ref t] ∧ SqT K H t (ps.map vS)
theorem RowAt.ex0 (e : Ex [] H H') (h : RowAt K H a l ps) : RowAt K H' a l ps := by
  obtain ⟨t, h1, h2⟩ := h
  exact ⟨t, e.sqT (by simp) h1, e.sqT (by simp) h2⟩
theorem u_kSigns (h : KindAt K H a l ps) (k : Q (vS l) H) : PropG (He.ga K "Kind") (sp_Kind_signs K) [] E (.ref a) H Q := by
  obtain ⟨dx, t, h1, h2⟩ := id h
  exact ⟨a, dx, _, rfl, h1, a, rfl, l, ps, h, k⟩
theorem s_cmeth {C : Addr} {sp : Sp} {E : XK} {ta : TE} {tr : TA} {σ : St} (k : ta σ H fun x H1 => x = .ref C ∧ tr σ H1 fun vs H2 => sp (.ref C :: vs) H2 Q E) : ClX.tCMeth C sp E ta tr σ H Q := k
theorem s_cmethK {C : Addr} {n : Nat} {gV : List V → List V → List V} {sp : Sp} {E : XK} {ta : TE} {tr : TA} {σ : St} (k : ta σ H fun x H1 => x = .ref C ∧ tr σ H1 fun zs H2 => zs.length = n ∧ sp (gV [.ref C] zs) H2 Q E) : tCMethK C n sp gV E ta tr σ H Q := k
theorem s_self {x : V} {A : Prop} (k : A) : x = x ∧ A := ⟨rfl, k⟩
end
theorem let_plain {c : Nat} (h : c ∈ LET) : c < 55296 := by
  simp only [LET, List.mem_cons, List.not_mem_nil, or_false] at h
  omega
theorem sgn_perm (s : List Nat) : (sgn s).Perm s := by
  unfold sgn
  have := (srt_perm (s.map fun c => [c])).flatten
  rw [flat1] at this
  exact this
theorem goodS_perm {s t : List Nat} (h : goodS s) (p : t.Perm s) : goodS t := ⟨isWord_mk (by rw [p.length_eq]; exact (isWord_len h.1).1) (by rw [p.length_eq]; exact (isWord_len h.1).2) fun c hc => isWord_in h.1 c (p.mem_iff.mp hc), by rw [p.length_eq]; exact h.2.1, p.nodup_iff.mpr h.2.2⟩
end WB
namespace WB
open PySem PySem.Spec PyProof.Rows L2
end WB
namespace WB
open PySem PySem.Spec PyProof.Rows L2
theorem lit_116_117_112_108_101 : ("tuple" : Str) = S [116, 117, 112, 108, 101] := by decide +kernel
theorem lit_108_105_115_116 : ("list" : Str) = S [108, 105, 115, 116] := by decide +kernel
theorem lit_100_105_99_116 : ("dict" : Str) = S [100, 105, 99, 116] := by decide +kernel
theorem lit_116_114_117_116_104 : ("truth" : Str) = S [116, 114, 117, 116, 104] := by decide +kernel
theorem lit_112_108_97_105_110 : ("plain" : Str) = S [112, 108, 97, 105, 110] := by decide +kernel
end WB
namespace WB
open PySem PySem.Spec PyProof.Rows L2
theorem perm_of_sub {α : Type} [DecidableEq α] : ∀ (ps qs : List α), ps.Nodup → (∀ p ∈ ps, p ∈ qs) → qs.length ≤ ps.length → ps.Perm qs
  | [], qs, _, _, hl => by
    have : qs = [] := List.length_eq_zero_iff.mp (by simpa using hl)
    rw [this]
  | x :: ps, qs, hn, hs, hl => by
    obtain ⟨h1, h2⟩ := List.nodup_cons.mp hn
    have hx : x ∈ qs := hs x List.mem_cons_self
    have hp := List.perm_cons_erase hx
    refine (List.Perm.cons x (perm_of_sub ps (qs.erase x) h2 (fun p hp => ?_) ?_)).trans hp.symm
    · have ne : p ≠ x := fun e => h1 (by rw [← e]; exact hp)
      exact (List.mem_erase_of_ne ne).mpr (hs p (List.mem_cons_of_mem _ hp))
    · have := hp.length_eq
      rw [List.length_cons] at this hl
      omega
end WB
namespace WB
open PySem PySem.Spec PyProof.Rows L2
theorem lc_fm8 {K : PySem.W.Frag} {H : Hp} {Q : VK} {b : Addr} {ls : List (List Nat)} {j : Nat} {tt : TT} {te : TE} {σ : St} (hq : SqL K H b (ls.map vS)) (hn : ls.length ≤ 100000) (pr : List Nat → Bool) (val : List Nat → V)
    (h : ∀ (x : List Nat) (H1 : Hp) (C1 : VK) (C0 : Hp → Prop), x ∈ ls → Ex [] H H1 → (∀ H2, Ex [] H1 H2 → pr x = true → C1 (val x) H2) → (∀ H2, Ex [] H1 H2 → pr x = false → C0 H2) →
      tt ((wipe σ [j]).set j (some (vS x))) H1 fun b H2 => if b = true then te ((wipe σ [j]).set j (some (vS x))) H2 C1 else C0 H2)
    (k : ∀ D H', H D = none → Ex [] H H' → H' D = some (.lst ((ls.filter pr).map val)) → Q (.ref D) H') : LcW (Itl K b) (gName j) tt te [j] σ H Q := by
  refine lc_run (walk_list (xs := ls.map vS)) (by rw [List.length_map]; exact hn) [] (fun _ => True) (fun i acc _ => acc = ((ls.take i).filter pr).map val) (by simp) trivial (by simp) (fun _ _ _ _ _ => trivial) (fun _ _ _ _ _ _ h => h) (fun H1 e => e.sqL (by simp) hq) ?_ ?_
  · rintro i acc x H1 H2 C1 C0 hi e _ rfl ⟨rfl, hx⟩ k1 k0
    rw [List.length_map] at hi
    rw [List.getElem?_map, List.getElem?_eq_getElem hi] at hx
    cases hx
    refine ⟨wipe1 _ _ _, ?_⟩
    refine h ls[i] _ C1 C0 (List.getElem_mem hi) e (fun H5 e5 hp => k1 _ H5 e5 trivial ?_) (fun H5 e5 hp => k0 H5 e5 trivial ?_)
    · rw [List.take_add_one, List.getElem?_eq_getElem hi, List.filter_append, List.map_append]
      simp [hp]
    · rw [List.take_add_one, List.getElem?_eq_getElem hi, List.filter_append, List.map_append]
      simp [hp]
  · rintro D H' ys hD e _ hd _ rfl
    rw [List.length_map, List.take_length] at hd
    exact k D H' hD e hd
theorem cutV_but {xs : List V} : cutV xs none (some (-1)) = xs.dropLast := by
  unfold cutV
  have e : HT.sIx xs.length xs.length (some (-1)) = xs.length - 1 := by
    show (if (-1 : Int) < 0 then (-1 + (xs.length : Int)).toNat else min (-1 : Int).toNat xs.length) = _
    rw [if_pos (by omega)]
    omega
  have e2 : HT.sIx xs.length 0 none = 0 := rfl
  rw [e, e2, List.dropLast_eq_take]
  simp
end WB
namespace WB
open PySem PySem.Spec PyProof.Rows L2
def MRK : List Nat := LET ++ [48, 49, 50, 51, 52, 53, 54, 55, 56, 57]
def isName (l : List Nat) : Prop := 1 ≤ l.length ∧ l.length ≤ 8 ∧ (∃ c r, l = c :: r ∧ c ∈ LET) ∧ ∀ c ∈ l, c ∈ MRK
theorem lit_MRK : ("abcdefghijklmnopqrstuvwxyz0123456789" : Str) = S MRK := by decide +kernel
structure Rw where
  a : List Nat
  c : Nat
  b : List Nat
  n : Int
structure Tn where
  a : List Nat
  b : List Nat
  n : Int
structure LM where
  ab : List Nat
  st : List (List Nat)
  tb : List Nat → Nat → List Nat × Int
  en : List Nat → List Nat × Int
  ok : List (List Nat)
def goodSt (st : List (List Nat)) : Prop := 1 ≤ st.length ∧ st.length ≤ 6 ∧ st.Nodup ∧ ∀ a ∈ st, isName a
structure GoodM (M : LM) : Prop where
  ab : goodS M.ab
  st : goodSt M.st
  tb : ∀ a ∈ M.st, ∀ c ∈ M.ab, (M.tb a c).1 ∈ M.st
  en : ∀ a ∈ M.st, (M.en a).1 ∈ M.st
  ok : ∀ a ∈ M.ok, a ∈ M.st
def goodRws (s : List Nat) (st : List (List Nat)) (rs : List Rw) : Prop := (∀ r ∈ rs, r.a ∈ st ∧ r.c ∈ s ∧ r.b ∈ st) ∧ (rs.map fun r => (r.a, r.c)).Nodup ∧ rs.length = s.length * st.length
def goodTns (st : List (List Nat)) (ts : List Tn) : Prop := (∀ t ∈ ts, t.a ∈ st ∧ t.b ∈ st) ∧ (ts.map fun t => t.a).Nodup
def goodYes (st ys : List (List Nat)) : Prop := (∀ y ∈ ys, y ∈ st) ∧ ys.Nodup
def rwV (r : Rw) : List V := [vS r.a, vS [r.c], vS r.b, .int r.n]
def tnV (t : Tn) : List V := [vS t.a, vS t.b, .int t.n]
def TupsAt (K : PySem.W.Frag) (H : Hp) (t : Addr) (ls : List (List V)) : Prop := ∃ xs, SqT K H t xs ∧ xs.length = ls.length ∧ ∀ (i : Nat) x l, xs[i]? = some x → ls[i]? = some l → ∃ p, x = .ref p ∧ SqT K H p l
section
variable {K : PySem.W.Frag} {H H' : Hp} {Q : VK} {E : XK} {t a : Addr}
theorem TupsAt.ex0 {ls : List (List V)} (e : Ex [] H H') (h : TupsAt K H t ls) : TupsAt K H' t ls := by
  obtain ⟨xs, h1, h2, h3⟩ := h
  refine ⟨xs, e.sqT (by simp) h1, h2, fun i x l hx hl => ?_⟩
  obtain ⟨p, h4, h5⟩ := h3 i x l hx hl
  exact ⟨p, h4, e.sqT (by simp) h5⟩
theorem TupsAt.exP {ls : List (List V)} (hp : PoolAt H a) (e : Ex [a] H H') (h : TupsAt K H t ls) : TupsAt K H' t ls := by
  obtain ⟨xs, h1, h2, h3⟩ := h
  refine ⟨xs, sqT_pool hp e h1, h2, fun i x l hx hl => ?_⟩
  obtain ⟨p, h4, h5⟩ := h3 i x l hx hl
  exact ⟨p, h4, sqT_pool hp e h5⟩
def sp_is_name (K : PySem.W.Frag) : Sp := fun vs H Q _ => ∃ l : List Nat, vs = [vS l] ∧ isName l ∧ ∀ H', Ex [] H H' → Q (.bl true) H'
def sp_is_step (K : PySem.W.Frag) : Sp := fun vs H Q _ => ∃ (p : Addr) (s : List Nat) (t : Addr), vs = [.ref p, vS s, .ref t] ∧ ∃ (r : Rw) (st : List (List Nat)), SqT K H p (rwV r) ∧ SqT K H t (st.map vS) ∧ r.a ∈ st ∧ r.c ∈ s ∧ r.b ∈ st ∧ ∀ H', Ex [] H H' → Q (.bl true) H'
def sp_is_turn (K : PySem.W.Frag) : Sp := fun vs H Q _ => ∃ (p t : Addr), vs = [.ref p, .ref t] ∧ ∃ (r : Tn) (st : List (List Nat)), SqT K H p (tnV r) ∧ SqT K H t (st.map vS) ∧ r.a ∈ st ∧ r.b ∈ st ∧ ∀ H', Ex [] H H' → Q (.bl true) H'
def sp_check_states (K : PySem.W.Frag) : Sp := fun vs H Q _ => ∃ t : Addr, vs = [.ref t] ∧ ∃ st : List (List Nat), SqT K H t (st.map vS) ∧ goodSt st ∧ ∀ H', Ex [] H H' → Q .non H'
def sp_check_rows (K : PySem.W.Frag) : Sp := fun vs H Q _ => ∃ (s : List Nat) (t u : Addr), vs = [vS s, .ref t, .ref u] ∧ ∃ (st : List (List Nat)) (rs : List Rw), goodS s ∧ SqT K H t (st.map vS) ∧ goodSt st ∧ TupsAt K H u (rs.map rwV) ∧ goodRws s st rs ∧ ∀ H', Ex [] H H' → Q .non H'
def sp_check_turns (K : PySem.W.Frag) : Sp := fun vs H Q _ => ∃ (t u : Addr), vs = [.ref t, .ref u] ∧ ∃ (st : List (List Nat)) (ts : List Tn), SqT K H t (st.map vS) ∧ goodSt st ∧ TupsAt K H u (ts.map tnV) ∧ goodTns st ts ∧ ∀ H', Ex [] H H' → Q .non H'
def sp_check_yes (K : PySem.W.Frag) : Sp := fun vs H Q _ => ∃ (t u : Addr), vs = [.ref t, .ref u] ∧ ∃ st ys : List (List Nat), SqT K H t (st.map vS) ∧ SqT K H u (ys.map vS) ∧ goodYes st ys ∧ ∀ H', Ex [] H H' → Q .non H'
theorem u_is_name {l : List Nat} (h : isName l) (k : ∀ H', Ex [] H H' → Q (.bl true) H') : sp_is_name K ([vS l] ++ []) H Q E := ⟨l, rfl, h, k⟩
theorem u_is_step {p t : Addr} {s : List Nat} {r : Rw} {st : List (List Nat)} (h1 : SqT K H p (rwV r)) (h2 : SqT K H t (st.map vS)) (ha : r.a ∈ st) (hc : r.c ∈ s) (hb : r.b ∈ st) (k : ∀ H', Ex [] H H' → Q (.bl true) H') : sp_is_step K ([.ref p, vS s, .ref t] ++ []) H Q E := ⟨p, s, t, rfl, r, st, h1, h2, ha, hc, hb, k⟩
theorem u_is_turn {p t : Addr} {r : Tn} {st : List (List Nat)} (h1 : SqT K H p (tnV r)) (h2 : SqT K H t (st.map vS)) (ha : r.a ∈ st) (hb : r.b ∈ st) (k : ∀ H', Ex [] H H' → Q (.bl true) H') : sp_is_turn K ([.ref p, .ref t] ++ []) H Q E := ⟨p, t, rfl, r, st, h1, h2, ha, hb, k⟩
theorem u_check_states {st : List (List Nat)} (h : SqT K H t (st.map vS)) (hg : goodSt st) (k : ∀ H', Ex [] H H' → Q .non H') : sp_check_states K ([.ref t] ++ []) H Q E := ⟨t, rfl, st, h, hg, k⟩
theorem u_check_rows {s : List Nat} {u : Addr} {st : List (List Nat)} {rs : List Rw} (hs : goodS s) (h : SqT K H t (st.map vS)) (hg : goodSt st) (hr : TupsAt K H u (rs.map rwV)) (hgr : goodRws s st rs) (k : ∀ H', Ex [] H H' → Q .non H') : sp_check_rows K ([vS s, .ref t, .ref u] ++ []) H Q E := ⟨s, t, u, rfl, st, rs, hs, h, hg, hr, hgr, k⟩
theorem u_check_turns {u : Addr} {st : List (List Nat)} {ts : List Tn} (h : SqT K H t (st.map vS)) (hg : goodSt st) (hr : TupsAt K H u (ts.map tnV)) (hgr : goodTns st ts) (k : ∀ H', Ex [] H H' → Q .non H') : sp_check_turns K ([.ref t, .ref u] ++ []) H Q E := ⟨t, u, rfl, st, ts, h, hg, hr, hgr, k⟩
theorem u_check_yes {u : Addr} {st ys : List (List Nat)} (h : SqT K H t (st.map vS)) (hr : SqT K H u (ys.map vS)) (hgr : goodYes st ys) (k : ∀ H', Ex [] H H' → Q .non H') : sp_check_yes K ([.ref t, .ref u] ++ []) H Q E := ⟨t, u, rfl, st, ys, h, hr, hgr, k⟩
end
theorem nodup_le {α : Type} [DecidableEq α] : ∀ (ps qs : List α), ps.Nodup → (∀ p ∈ ps, p ∈ qs) → ps.length ≤ qs.length
  | [], _, _, _ => Nat.zero_le _
  | x :: ps, qs, hn, hs => by
    obtain ⟨h1, h2⟩ := List.nodup_cons.mp hn
    have hx : x ∈ qs := hs x List.mem_cons_self
    have := nodup_le ps (qs.erase x) h2 fun p hp => (List.mem_erase_of_ne (fun (e : p = x) => h1 (by rw [← e]; exact hp))).mpr (hs p (List.mem_cons_of_mem _ hp))
    rw [List.length_erase_of_mem hx] at this
    have := List.length_pos_of_mem hx
    simp only [List.length_cons]
    omega
theorem take1 {α β : Type} (f : α → β) {l : List α} {i : Nat} (h : i < l.length) : (l.take (i + 1)).map f = (l.take i).map f ++ [f l[i]] := by
  rw [List.take_add_one, List.getElem?_eq_getElem h, List.map_append]
  rfl
theorem name_plain {l : List Nat} (h : isName l) : plain l := fun c hc => by
  have := h.2.2.2 c hc
  rcases List.mem_append.mp this with h | h
  · exact let_plain h
  · exact (show ∀ c ∈ [48, 49, 50, 51, 52, 53, 54, 55, 56, 57], c < 55296 by decide) c h
end WB
namespace WB
open PySem PySem.Spec PyProof.Rows L2
local macro_rules | `(tactic| walk_at "lit") => `(tactic| first | exact lit_abc | exact lit_empty)
local macro_rules | `(tactic| walk_at "nm") => `(tactic| focus first | exact List.not_mem_nil | (simp only [List.mem_singleton]; first | assumption | (exact Ne.symm (by assumption)) | (intro hz; subst hz; simp_all; done)))
local macro_rules | `(tactic| walk_at "hp") => `(tactic| first | assumption | (apply Ex.get0 (by assumption); walk_at "hp") | (apply Ex.get (by assumption); (walk_at "nm"); (walk_at "hp")))
local macro_rules | `(tactic| walk_at "sq") => `(tactic| first | assumption | (apply SqL.of; walk_at "hp") | (apply Ex.sqL (by assumption); (walk_at "nm"); (walk_at "sq")))
local macro_rules | `(tactic| walk_at "sqt") => `(tactic| first | assumption | (apply SqT.of; walk_at "hp") | (apply Ex.sqT (by assumption); (walk_at "nm"); (walk_at "sqt")))
local macro_rules | `(tactic| walk_at "sz") => `(tactic| focus ((with_reducible refine Nat.le_trans (m := 100000) ?_ (by decide)); first | omega | (simp; done) | (simp; omega)))
local macro_rules | `(tactic| walk_at "mul") => `(tactic| first | exact Or.inr ⟨by omega, by omega⟩ | exact Or.inl ⟨by omega, by omega⟩)
local macro_rules | `(tactic| walk_at "pool") => `(tactic| first | assumption | (apply PoolAt.ex (by assumption); (walk_at "nm"); (walk_at "pool")))
local macro_rules | `(tactic| walk_at "ring") => `(tactic| first | assumption | (apply RingAt.ex (by assumption); (walk_at "nm"); (walk_at "ring")))
local macro_rules | `(tactic| walk_at "st") => `(tactic| first
  | with_reducible refine s_seq ?_
  | with_reducible refine s_asg ?_
  | with_reducible refine s_gName ?_
  | with_reducible refine s_ret ?_
  | with_reducible refine s_ifS ?_
  | with_reducible refine s_next ?_
  | with_reducible refine s_op ?_
  | ((with_reducible apply s_var); exact rfl)
  | ((with_reducible apply s_cS); (walk_at "lit"))
  | with_reducible refine s_c ?_
  | with_reducible refine s_cb ?_
  | with_reducible refine s_cons ?_
  | with_reducible refine s_nil ?_
  | with_reducible refine s_un ?_
  | with_reducible refine s_call ?_
  | with_reducible refine s_test ?_
  | with_reducible refine s_tB ?_
  | with_reducible refine s_blQ ?_
  | with_reducible refine s_not ?_
  | with_reducible refine s_and ?_
  | with_reducible refine s_or ?_
  | with_reducible refine s_andV ?_
  | with_reducible refine s_orV ?_
  | with_reducible refine s_notV ?_
  | with_reducible refine s_ifE ?_
  | with_reducible refine s_chain ?_
  | ((with_reducible refine s_T ?_ ?_); (with_reducible exact rfl))
  | with_reducible refine s_nT ?_
  | with_reducible refine s_nF ?_
  | ((with_reducible refine s_F ?_ ?_); (with_reducible exact rfl))
  | ((with_reducible refine s_T ?_ ?_); assumption)
  | ((with_reducible refine s_F ?_ ?_); assumption)
  | ((with_reducible refine s_nB ?_ ?_); assumption)
  | ((with_reducible refine s_nA ?_ ?_); assumption)
  | ((with_reducible refine s_Td ?_ ?_); omega)
  | ((with_reducible refine s_Fd ?_ ?_); omega)
  | ((with_reducible refine s_nTd ?_ ?_); omega)
  | ((with_reducible refine s_nFd ?_ ?_); omega)
  | with_reducible refine s_sfld ?_
  | with_reducible refine s_addI ?_
  | with_reducible refine s_subI ?_
  | ((with_reducible refine s_mulI ?_ ?_); (walk_at "mul"))
  | ((with_reducible refine s_divI ?_ ?_); exact ⟨by omega, by omega⟩)
  | ((with_reducible refine s_modI ?_ ?_); omega)
  | ((with_reducible refine s_powI ?_ ?_); exact ⟨by decide, by decide, by decide⟩)
  | with_reducible refine s_ltI ?_
  | with_reducible refine s_leI ?_
  | with_reducible refine s_gtI ?_
  | with_reducible refine s_geI ?_
  | with_reducible refine s_negI ?_
  | with_reducible refine s_absI ?_
  | with_reducible refine s_intI ?_
  | with_reducible refine s_min2 ?_
  | with_reducible refine s_max2 ?_
  | with_reducible refine s_eqI ?_
  | with_reducible refine s_neI ?_
  | with_reducible refine s_eqS ?_
  | with_reducible refine s_neS ?_
  | with_reducible refine s_inSg ?_
  | with_reducible refine s_notInSg ?_
  | ((with_reducible refine s_addS ?_ ?_); (walk_at "sz"))
  | ((with_reducible refine s_lenS ?_ ?_); (walk_at "sz"))
  | ((with_reducible apply s_lenL); (walk_at "sq"))
  | ((with_reducible apply s_lenT); (walk_at "sqt"))
  | ((with_reducible apply s_ixL); (walk_at "sq"); exact rfl)
  | ((with_reducible apply s_ixT); (walk_at "sqt"); exact rfl)
  | with_reducible refine s_gSub ?_
  | ((with_reducible apply s_setL); (walk_at "hp"); (exact rfl); (intro _ _ _))
  | ((with_reducible refine s_alloc ?_ ?_); (walk_at "sz"); (intro _ _ _ _ _))
  | ((with_reducible refine s_divmod ?_ ?_); (exact ⟨by omega, PyProof.noPylong_small (by omega)⟩); (intro _ _ _ _ _))
  | ((with_reducible apply s_gTup); (walk_at "sqt"); (exact rfl))
  | ((with_reducible apply s_gLst); (walk_at "sq"); (exact rfl))
  | with_reducible refine s_gCons ?_
  | with_reducible refine s_gNil ?_
  | with_reducible refine s_lc ?_
  | ((with_reducible apply s_cat); (walk_at "hp"); (walk_at "hp"); (walk_at "sz"); (intro _ _ _ _ _))
  | ((with_reducible apply s_slL); (walk_at "sq"); (intro _ _ _ _ _))
  | with_reducible refine s_for ?_
  | with_reducible refine s_rng1 ?_
  | ((with_reducible refine s_rng1i ?_ ?_); (constructor <;> omega))
  | with_reducible refine s_rng2 ?_
  | ((with_reducible refine s_rng2i ?_ ?_); (refine ⟨?_, ?_, ?_, ?_⟩ <;> omega))
  | with_reducible refine s_iStr ?_
  | with_reducible refine s_iStrS ?_
  | with_reducible refine s_iList ?_
  | ((with_reducible apply s_iListA); (walk_at "sq"))
  | with_reducible refine s_iTup ?_
  | ((with_reducible apply s_iTupA); (walk_at "sqt"))
  | with_reducible refine s_sl ?_
  | with_reducible refine s_noPart ?_
  | with_reducible refine s_part ?_
  | with_reducible refine s_int1 ?_
  | ((with_reducible refine s_slS ?_ ?_); (walk_at "sz"))
  | with_reducible refine s_tup ?_
  | with_reducible refine s_lst ?_
  | with_reducible refine s_par ?_
  | with_reducible refine s_pair ?_
  | with_reducible refine s_M1 ?_
  | with_reducible refine s_isStr ?_
  | with_reducible refine s_revS ?_
  | ((with_reducible refine s_revS1 ?_ ?_); (walk_at "sz"))
  | with_reducible refine s_fldE ?_
  | with_reducible refine s_propE ?_
  | ((with_reducible refine u_draw ?_ ?_ ?_ ?_); omega; omega; (walk_at "pool"); (intro _ _ _ _ _ _))
  | ((with_reducible refine u_pool ?_); (intro _ _ _ _ _))
  | with_reducible refine u_is_integer ?_
  | with_reducible refine s_isiII ?_
  | with_reducible refine s_isiIB ?_
  | with_reducible refine s_isiSS ?_
  | ((with_reducible apply u_fldRing); assumption; (walk_at "ring"))
  | ((with_reducible apply u_textP); (walk_at "ring"))
  | ((with_reducible apply u_strRing); (walk_at "ring"))
  | ((with_reducible apply u_eqRing); (walk_at "ring"); (walk_at "ring"))
  | ((with_reducible apply u_isiRing); assumption; (walk_at "ring"))
  | ((with_reducible refine u_is_word ?_ ?_); omega; (intro _ _))
  | ((with_reducible refine u_turnings ?_ ?_); omega; (intro _ _ _ _ _))
  | with_reducible refine s_makeE ?_
  | with_reducible refine s_methE ?_)
local macro_rules | `(tactic| walk_at "go") => `(tactic| repeat (walk_at "st"))
local macro_rules | `(tactic| walk_at "exs") => `(tactic| first | exact Ex.rfl | assumption | (apply Ex.snoc (by assumption); walk_at "exs") | (apply Ex.snocW (by assumption); walk_at "exs"))
local macro_rules | `(tactic| walk_at "kind") => `(tactic| first | assumption | (apply KindAt.ex0 (by assumption); (walk_at "kind")) | (apply KindAt.exP (by assumption) (by assumption); (walk_at "kind")))
local macro_rules | `(tactic| walk_at "st") => `(tactic| first
  | with_reducible refine s_lenSet ?_
  | with_reducible refine s_drop ?_
  | with_reducible refine s_bm ?_
  | with_reducible refine s_notN ?_
  | with_reducible refine s_isN ?_
  | ((with_reducible apply s_tyL); (walk_at "hp"))
  | with_reducible refine s_enumT ?_
  | ((with_reducible apply s_enumTA); (walk_at "sqt"))
  | with_reducible refine s_lc2 ?_)
local macro_rules | `(tactic| walk_at "lit") => `(tactic| exact lit_MRK)
def t_is_name (K : PySem.W.Frag) : TS :=
  (tSeq (tIfS (tOr (tNot (tB (tCB (rIsi K) (tCons (tVar 0) (tCons (tC (.ty "str")) tNil))))) (tNot (tTest (tChain rLeI rLeI (tC (.int 1)) (tCB (rLenV K) (tCons (tVar 0) tNil)) (tC (.int 8)))))) (tRet (tC (.bl false))) tNext)
  (tRet (tAndV (tOp rInSg (tOp rIxS (tVar 0) (tC (.int 0))) (tC (.str "abcdefghijklmnopqrstuvwxyz"))) (tCB (rAll K) (tCons (tLc (iStr (tVar 0)) (gName 1) tYes (tOp rInSg (tVar 1) (tC (.str "abcdefghijklmnopqrstuvwxyz0123456789"))) [1]) tNil)))))
def t_is_step (K : PySem.W.Frag) : TS :=
  (tSeq (tIfS (tOr (tNot (tB (tCall (sp_is_row K) [] E0 (tCons (tVar 0) (tCons (tC (.int 4)) tNil))))) (tOr (tNot (tB (tCall (sp_is_word K) [] E0 (tCons (tOp (rIxT K) (tVar 0) (tC (.int 1))) (tCons (tVar 1) tNil))))) (tTest (tOp rNe (tCB (rLenV K) (tCons (tOp (rIxT K) (tVar 0) (tC (.int 1))) tNil)) (tC (.int 1)))))) (tRet (tC (.bl false))) tNext)
  (tRet (tAndV (tOp (rIn K false) (tOp (rIxT K) (tVar 0) (tC (.int 0))) (tVar 2)) (tAndV (tOp (rIn K false) (tOp (rIxT K) (tVar 0) (tC (.int 2))) (tVar 2)) (tCall (sp_is_integer K) [] E0 (tCons (tOp (rIxT K) (tVar 0) (tC (.int 3))) tNil))))))
def t_is_turn (K : PySem.W.Frag) : TS :=
  (tRet (tAndV (tCall (sp_is_row K) [] E0 (tCons (tVar 0) (tCons (tC (.int 3)) tNil))) (tAndV (tOp (rIn K false) (tOp (rIxT K) (tVar 0) (tC (.int 0))) (tVar 1)) (tAndV (tOp (rIn K false) (tOp (rIxT K) (tVar 0) (tC (.int 1))) (tVar 1)) (tCall (sp_is_integer K) [] E0 (tCons (tOp (rIxT K) (tVar 0) (tC (.int 2))) tNil))))))
def t_check_states (K : PySem.W.Frag) : TS :=
  (tSeq (tIfS (tOr (tNot (tB (tCB (rIsi K) (tCons (tVar 0) (tCons (tC (.ty "tuple")) tNil))))) (tTest (tOp rEq (tCB (rLenV K) (tCons (tVar 0) tNil)) (tC (.int 0))))) tNever tNext)
  (tFor (iEnumT K (tCons (tVar 0) tNil)) (gTup K 2 (gCons (gName 1) (gCons (gName 2) gNil))) (tIfS (tOr (tTest (tOp rEq (tVar 1) (tC (.int 6)))) (tOr (tNot (tB (tCall (sp_is_name K) [] E0 (tCons (tVar 2) tNil)))) (tTest (tOp (rIn K false) (tVar 2) (tSl (rSlA K) (tVar 0) tNoPart (tPart (tVar 1))))))) tNever tNext)))
def t_check_rows (K : PySem.W.Frag) : TS :=
  (tSeq (tIfS (tNot (tB (tCB (rIsi K) (tCons (tVar 2) (tCons (tC (.ty "tuple")) tNil))))) tNever tNext)
  (tSeq (tAsg (tLst tNil) (gName 3))
  (tSeq (tFor (iEnumT K (tCons (tVar 2) tNil)) (gTup K 2 (gCons (gName 4) (gCons (gName 5) gNil))) (tSeq (tIfS (tOr (tNot (tB (tCall (sp_is_step K) [] E0 (tCons (tVar 5) (tCons (tVar 0) (tCons (tVar 1) tNil)))))) (tTest (tOp (rInD K) (tSl (rSlA K) (tVar 5) tNoPart (tPart (tC (.int 2)))) (tVar 3)))) tNever tNext)
  (tDrop (tBM K "list" rAppend (tVar 3) (tCons (tSl (rSlA K) (tVar 5) tNoPart (tPart (tC (.int 2)))) tNil)))))
  (tIfS (tTest (tOp rLtI (tCB (rLenV K) (tCons (tVar 2) tNil)) (tOp rMulI (tCB (rLenV K) (tCons (tVar 0) tNil)) (tCB (rLenV K) (tCons (tVar 1) tNil))))) tNever tNext))))
def t_check_turns (K : PySem.W.Frag) : TS :=
  (tSeq (tIfS (tNot (tB (tCB (rIsi K) (tCons (tVar 1) (tCons (tC (.ty "tuple")) tNil))))) tNever tNext)
  (tSeq (tAsg (tLst tNil) (gName 2))
  (tFor (iEnumT K (tCons (tVar 1) tNil)) (gTup K 2 (gCons (gName 3) (gCons (gName 4) gNil))) (tSeq (tIfS (tOr (tNot (tB (tCall (sp_is_turn K) [] E0 (tCons (tVar 4) (tCons (tVar 0) tNil))))) (tTest (tOp (rIn K false) (tOp (rIxT K) (tVar 4) (tC (.int 0))) (tVar 2)))) tNever tNext)
  (tDrop (tBM K "list" rAppend (tVar 2) (tCons (tOp (rIxT K) (tVar 4) (tC (.int 0))) tNil)))))))
def t_check_yes (K : PySem.W.Frag) : TS :=
  (tSeq (tIfS (tNot (tB (tCB (rIsi K) (tCons (tVar 1) (tCons (tC (.ty "tuple")) tNil))))) tNever tNext)
  (tFor (iEnumT K (tCons (tVar 1) tNil)) (gTup K 2 (gCons (gName 2) (gCons (gName 3) gNil))) (tIfS (tOr (tTest (tOp (rIn K true) (tVar 3) (tVar 0))) (tTest (tOp (rIn K false) (tVar 3) (tSl (rSlA K) (tVar 1) tNoPart (tPart (tVar 2)))))) tNever tNext)))
section
variable {K : PySem.W.Frag} {vs : List V} {H : Hp} {Q : VK} {E : XK}
theorem pure_is_name (h : sp_is_name K vs H Q E) : t_is_name K (E1 Q) (start ["value", "mark"] vs) H := by
  obtain ⟨l, rfl, ⟨h1, h2, ⟨c, r, hl, hc⟩, h3⟩, k⟩ := h
  show t_is_name K (E1 Q) [some (vS l), none] H
  unfold t_is_name
  walk_at "go"
  refine s_ixS (c := c) (by walk_at "sz") (atI_of (by omega) (by rw [hl]; rfl)) ?_
  walk_at "go"
  refine lc_mapS (by omega) (fun _ => true) (fun _ => .bl true) (fun d H1 C1 C0 hd e1 k1 k0 => ?_) (fun D H1 hD e1 hd => ?_)
  · refine s_yes ?_
    walk_at "go"
    rw [decide_eq_true (show d ∈ MRK from h3 d hd)]
    exact k1 _ Ex.rfl rfl
  walk_at "go"
  rw [show l.filter (fun _ => true) = l from List.filter_eq_self.mpr fun _ _ => rfl] at hd
  refine s_all (bs := l.map fun _ => true) (SqL.of (by rw [hd, List.map_map]; rfl)) ?_
  rw [show (l.map fun _ => true).all id = true by simp]
  exact k _ e1
theorem pure_is_step (h : sp_is_step K vs H Q E) : t_is_step K (E1 Q) (start ["row", "signs", "states"] vs) H := by
  obtain ⟨p, s, t, rfl, r, st, h1, h2, ha, hc, hb, k⟩ := h
  show t_is_step K (E1 Q) [some (.ref p), some (vS s), some (.ref t)] H
  unfold t_is_step
  walk_at "go"
  refine u_row h1 ?_
  walk_at "go"
  refine s_F rfl ?_
  walk_at "go"
  refine u_is_wordF (by simp) fun H1 e1 => ?_
  have hw : isWord [r.c] s = true := isWord_mk (by simp) (by simp) (by simpa using hc)
  rw [hw]
  walk_at "go"
  refine s_F (by simp) ?_
  walk_at "go"
  refine s_inT (e1.sqT (by simp) h2) ?_
  rw [decide_eq_true ha]
  walk_at "go"
  refine s_inT (e1.sqT (by simp) h2) ?_
  rw [decide_eq_true hb]
  walk_at "go"
  exact k _ e1
theorem pure_is_turn (h : sp_is_turn K vs H Q E) : t_is_turn K (E1 Q) (start ["turn", "states"] vs) H := by
  obtain ⟨p, t, rfl, r, st, h1, h2, ha, hb, k⟩ := h
  show t_is_turn K (E1 Q) [some (.ref p), some (.ref t)] H
  unfold t_is_turn
  walk_at "go"
  refine u_row h1 ?_
  walk_at "go"
  refine s_T rfl ?_
  walk_at "go"
  refine s_inT h2 ?_
  rw [decide_eq_true ha]
  walk_at "go"
  refine s_inT h2 ?_
  rw [decide_eq_true hb]
  walk_at "go"
  exact k _ Ex.rfl
theorem not_mem_take {α : Type} {ls : List α} (hn : ls.Nodup) {i : Nat} (hi : i < ls.length) : ls[i] ∉ ls.take i := fun z => by
  obtain ⟨j, hj, e⟩ := List.mem_take_iff_getElem.mp z
  exact absurd (List.getElem_inj hn |>.mp e) (by omega)
theorem pure_check_states (h : sp_check_states K vs H Q E) : t_check_states K (E1 Q) (start ["states", "index", "state"] vs) H := by
  obtain ⟨t, rfl, st, ht, ⟨g1, g2, g3, g4⟩, k⟩ := h
  show t_check_states K (E1 Q) [some (.ref t), none, none] H
  unfold t_check_states
  walk_at "go"
  refine s_isiK (Kd.tup ht) (b := true) (by decide +kernel) ?_
  walk_at "go"
  refine s_Fd (by rw [List.length_map]; omega) ?_
  walk_at "go"
  refine for_run walk_enumT (fun i σ H1 => ∃ x1 x2, σ = [some (.ref t), x1, x2] ∧ Ex [] H H1) ⟨_, _, rfl, Ex.rfl⟩ (fun i σ H1 _ ⟨_, _, _, e⟩ => e.sqT (by simp) ht) ?_ ?_
  · rintro i x σ H1 H2 hi ⟨x2, x3, rfl, e1⟩ ⟨T, y, z, rfl, hT, rfl, hy, hz⟩
    rw [List.length_map] at hi
    have hz : (st.map vS)[i]? = some z := hz
    rw [List.getElem?_map, List.getElem?_eq_getElem hi] at hz
    cases hz
    cases hy
    have e2 : Ex [] H1 (upd H1 T (.tup [.int (i : Nat), vS st[i]])) := Ex.new hT
    have h2 : (upd H1 T (.tup [.int (i : Nat), vS st[i]])) T = some (.tup [.int (i : Nat), vS st[i]]) := upd_same
    revert e2 h2
    generalize upd H1 T (.tup [.int (i : Nat), vS st[i]]) = H3
    intro e2 h2
    walk_at "go"
    refine u_is_name (g4 _ (List.getElem_mem hi)) fun H4 e4 => ?_
    walk_at "go"
    refine s_slA (xs := st.map vS) (by walk_at "sqt") fun q H5 e5 hs5 => ?_
    walk_at "go"
    rw [show cutV (st.map vS) none (some (i : Int)) = (st.take i).map vS by rw [cutV_to (by omega)]; simp [List.map_take]] at hs5
    refine s_inT hs5 ?_
    rw [decide_eq_false (not_mem_take g3 hi)]
    walk_at "go"
    exact ⟨_, _, rfl, (((e1.trans e2).trans e4).trans e5)⟩
  · rintro σ H1 ⟨x2, x3, rfl, e1⟩
    exact k _ e1
theorem pure_check_yes (h : sp_check_yes K vs H Q E) : t_check_yes K (E1 Q) (start ["states", "yes", "index", "state"] vs) H := by
  obtain ⟨t, u, rfl, st, ys, ht, hu, ⟨g1, g2⟩, k⟩ := h
  show t_check_yes K (E1 Q) [some (.ref t), some (.ref u), none, none] H
  unfold t_check_yes
  walk_at "go"
  refine s_isiK (Kd.tup hu) (b := true) (by decide +kernel) ?_
  walk_at "go"
  refine for_run walk_enumT (fun i σ H1 => ∃ x1 x2, σ = [some (.ref t), some (.ref u), x1, x2] ∧ Ex [] H H1) ⟨_, _, rfl, Ex.rfl⟩ (fun i σ H1 _ ⟨_, _, _, e⟩ => e.sqT (by simp) hu) ?_ ?_
  · rintro i x σ H1 H2 hi ⟨x2, x3, rfl, e1⟩ ⟨T, y, z, rfl, hT, rfl, hy, hz⟩
    rw [List.length_map] at hi
    have hz : (ys.map vS)[i]? = some z := hz
    rw [List.getElem?_map, List.getElem?_eq_getElem hi] at hz
    cases hz
    cases hy
    have e2 : Ex [] H1 (upd H1 T (.tup [.int (i : Nat), vS ys[i]])) := Ex.new hT
    have h2 : (upd H1 T (.tup [.int (i : Nat), vS ys[i]])) T = some (.tup [.int (i : Nat), vS ys[i]]) := upd_same
    revert e2 h2
    generalize upd H1 T (.tup [.int (i : Nat), vS ys[i]]) = H3
    intro e2 h2
    walk_at "go"
    refine s_notInT (ls := st) (by walk_at "sqt") ?_
    rw [decide_eq_true (g1 _ (List.getElem_mem hi))]
    walk_at "go"
    refine s_slA (xs := ys.map vS) (by walk_at "sqt") fun q H5 e5 hs5 => ?_
    walk_at "go"
    rw [show cutV (ys.map vS) none (some (i : Int)) = (ys.take i).map vS by rw [cutV_to (by omega)]; simp [List.map_take]] at hs5
    refine s_inT hs5 ?_
    rw [decide_eq_false (not_mem_take g2 hi)]
    walk_at "go"
    exact ⟨_, _, rfl, ((e1.trans e2).trans e5)⟩
  · rintro σ H1 ⟨x2, x3, rfl, e1⟩
    exact k _ e1
theorem pure_check_turns (h : sp_check_turns K vs H Q E) : t_check_turns K (E1 Q) (start ["states", "turns", "seen", "index", "turn"] vs) H := by
  obtain ⟨t, u, rfl, st, ts, ht, hst, hu, ⟨g1, g2⟩, k⟩ := h
  obtain ⟨xs, hxs, hxl, hxp⟩ := hu
  rw [List.length_map] at hxl
  have htl : ts.length ≤ 6 := by
    have := nodup_le _ st g2 fun a ha => by obtain ⟨t, h1, rfl⟩ := List.mem_map.mp ha; exact (g1 t h1).1
    rw [List.length_map] at this
    exact Nat.le_trans this hst.2.1
  show t_check_turns K (E1 Q) [some (.ref t), some (.ref u), none, none, none] H
  unfold t_check_turns
  walk_at "go"
  refine s_isiK (Kd.tup hxs) (b := true) (by decide +kernel) ?_
  walk_at "go"
  rename_i q H0 nq e0 h0
  refine for_run walk_enumT (fun i σ H1 => ∃ x1 x2, σ = [some (.ref t), some (.ref u), some (.ref q), x1, x2] ∧ Ex [] H H1 ∧ H1 q = some (.lst (((ts.take i).map fun t => t.a).map vS))) ⟨_, _, rfl, e0, by simpa using h0⟩ (fun i σ H1 _ ⟨_, _, _, e, _⟩ => e.sqT (by simp) hxs) ?_ ?_
  · rintro i x σ H1 H2 hi ⟨x2, x3, rfl, e1, h1⟩ ⟨T, y, z, rfl, hT, rfl, hy, hz⟩
    have hit : i < ts.length := by omega
    have hz : xs[i]? = some z := hz
    obtain ⟨p, rfl, hp⟩ := hxp i z (tnV ts[i]) hz (by rw [List.getElem?_map, List.getElem?_eq_getElem hit]; rfl)
    cases hy
    have hqT : q ≠ T := fun z => by rw [← z, h1] at hT; cases hT
    have e2 : Ex [] H1 (upd H1 T (.tup [.int (i : Nat), .ref p])) := Ex.new hT
    have h2 : (upd H1 T (.tup [.int (i : Nat), .ref p])) T = some (.tup [.int (i : Nat), .ref p]) := upd_same
    revert e2 h2
    generalize upd H1 T (.tup [.int (i : Nat), .ref p]) = H3
    intro e2 h2
    have hg := g1 _ (List.getElem_mem hit)
    walk_at "go"
    refine u_is_turn (r := ts[i]) (st := st) ((e1.trans e2).sqT (by simp) hp) ((e1.trans e2).sqT (by simp) ht) hg.1 hg.2 fun H4 e4 => ?_
    walk_at "go"
    refine s_inL (SqL.of ((e2.trans e4).get0 h1)) ?_
    rw [decide_eq_false (show ts[i].a ∉ (ts.take i).map fun t => t.a from fun z => by
      rw [List.map_take] at z
      have := not_mem_take g2 (i := i) (by rw [List.length_map]; exact hit)
      rw [List.getElem_map] at this
      exact this z)]
    walk_at "go"
    refine s_append (xs := ((ts.take i).map fun t => t.a).map vS) ((e2.trans e4).get0 h1) (by simp only [List.length_map, List.length_take]; exact Nat.lt_of_le_of_lt (Nat.min_le_left _ _) (Nat.lt_of_lt_of_le hit (Nat.le_trans htl (by decide)))) fun H5 e5 h5 => ?_
    refine ⟨_, _, rfl, Ex.drop nq ((e1.trans e2).trans e4) e5, ?_⟩
    rw [h5, take1 (fun t => t.a) hit, List.map_append]
    rfl
  · rintro σ H1 ⟨x2, x3, rfl, e1, _⟩
    exact k _ e1
def dPr (z : List Nat × Nat) : PyData := .tuple [dS z.1, dS [z.2]]
theorem dPr_eqv (z w : List Nat × Nat) : PyData.eqv (dPr z) (dPr w) = decide (z = w) := by
  obtain ⟨a, c⟩ := z
  obtain ⟨b, d⟩ := w
  have h := eqv_strs [a, [c]] [b, [d]]
  show PyData.eqv (.tuple ([a, [c]].map dS)) (.tuple ([b, [d]].map dS)) = _
  rw [PyData.eqv, h]
  by_cases h1 : a = b <;> by_cases h2 : c = d <;> simp [h1, h2]
theorem dPr_lay {z : List Nat × Nat} (h : plain z.1 ∧ z.2 < 55296) : PyData.canLay0 (dPr z) = true := by
  unfold dPr
  rw [PyData.canLay0]
  exact lay_all fun e he => by
    rcases List.mem_cons.mp he with rfl | he
    · exact lay_dS h.1
    · rw [List.mem_singleton.mp he]; exact lay_dS (by simpa [plain] using h.2)
theorem dPr_dep (z : List Nat × Nat) : PyData.depth (dPr z) ≤ 1 := by
  unfold dPr
  rw [PyData.depth]
  have : PyData.depthAll [dS z.1, dS [z.2]] ≤ 0 := dep_all fun e he => by
    rcases List.mem_cons.mp he with rfl | he
    · rw [dep_dS]; exact Nat.le_refl _
    · rw [List.mem_singleton.mp he, dep_dS]; exact Nat.le_refl _
  omega
theorem any_pr (zs : List (List Nat × Nat)) (w : List Nat × Nat) : ((zs.map dPr).any fun z => PyData.eqv z (dPr w)) = decide (w ∈ zs) := by
  induction zs with
  | nil => simp
  | cons z zs ih =>
    rw [List.map_cons, List.any_cons, ih, dPr_eqv]
    by_cases h1 : z = w
    · subst h1; simp
    · by_cases h2 : w ∈ zs <;> simp [h1, h2, Ne.symm h1]
def PrsAt (K : PySem.W.Frag) (H : Hp) (q : Addr) (zs : List (List Nat × Nat)) : Prop := ∃ xs, H q = some (.lst xs) ∧ xs.length = zs.length ∧ ∀ (i : Nat) x z, xs[i]? = some x → zs[i]? = some z → ∃ p, x = .ref p ∧ SqT K H p [vS z.1, vS [z.2]]
theorem s_inPr {q p : Addr} {zs : List (List Nat × Nat)} {w : List Nat × Nat} (h : PrsAt K H q zs) (hp : SqT K H p [vS w.1, vS [w.2]]) (hz : ∀ z ∈ zs, plain z.1 ∧ z.2 < 55296) (hw : plain w.1 ∧ w.2 < 55296) (k : Q (.bl (decide (w ∈ zs))) H) : rInD K (.ref p) (.ref q) H Q := by
  obtain ⟨xs, h1, h2, h3⟩ := h
  refine ⟨dPr w, zs.map dPr, .tup hp (.cons (.str _) (.cons (.str _) .nil)), .lst (SqL.of h1) (dpAll_of _ _ (by simp [h2]) fun i x e hx he => ?_), ?_, ?_, ?_⟩
  · rw [List.getElem?_map] at he
    obtain ⟨z, hz', rfl⟩ := Option.map_eq_some_iff.mp he
    obtain ⟨p', rfl, hp'⟩ := h3 i x z hx hz'
    exact .tup hp' (.cons (.str _) (.cons (.str _) .nil))
  · unfold SeqAt.shaped
    have := dPr_dep w
    exact Bool.and_eq_true_iff.mpr ⟨dPr_lay hw, decide_eq_true (by omega)⟩
  · unfold SeqAt.shaped
    refine Bool.and_eq_true_iff.mpr ⟨?_, decide_eq_true ?_⟩
    · rw [PyData.canLay0]
      exact lay_all fun e he => by obtain ⟨z, h, rfl⟩ := List.mem_map.mp he; exact dPr_lay (hz z h)
    · rw [PyData.depth]
      have : PyData.depthAll (zs.map dPr) ≤ 1 := dep_all fun e he => by obtain ⟨z, h, rfl⟩ := List.mem_map.mp he; exact dPr_dep z
      omega
  · rw [any_pr]; exact k
theorem sqT_lst {q t : Addr} {xs ys : List V} {H' : Hp} (hq : H q = some (.lst xs)) (e : Ex [q] H H') (h : SqT K H t ys) : SqT K H' t ys := by
  rcases h with (h | ⟨o, h⟩) | h
  · exact e.sqT (by simp only [List.mem_singleton]; intro w; rw [w, hq] at h; cases h) (.inl (.inl h))
  · exact e.sqT (by simp only [List.mem_singleton]; intro w; rw [w, hq] at h; cases h) (.inl (.inr ⟨o, h⟩))
  · exact .inr h
theorem PrsAt.ex0 {q : Addr} {zs : List (List Nat × Nat)} {H' : Hp} (e : Ex [] H H') (h : PrsAt K H q zs) : PrsAt K H' q zs := by
  obtain ⟨xs, h1, h2, h3⟩ := h
  refine ⟨xs, e.get0 h1, h2, fun i x z hx hz => ?_⟩
  obtain ⟨p, h4, h5⟩ := h3 i x z hx hz
  exact ⟨p, h4, e.sqT (by simp) h5⟩
theorem s_appPr {q p : Addr} {zs : List (List Nat × Nat)} {w : List Nat × Nat} (h : PrsAt K H q zs) (hp : SqT K H p [vS w.1, vS [w.2]]) (hl : zs.length ≤ 1000) (k : ∀ H2, Ex [q] H H2 → PrsAt K H2 q (zs ++ [w]) → Q .non H2) : rAppend (.ref q) [.ref p] H Q := by
  obtain ⟨xs, h1, h2, h3⟩ := h
  refine s_append h1 (by rw [h2]; exact Nat.lt_of_le_of_lt hl (by decide)) fun H2 e2 hh => k H2 e2 ⟨_, hh, by simp [h2], fun i x z hx hz => ?_⟩
  by_cases hi : i < xs.length
  · rw [List.getElem?_append_left hi] at hx
    rw [List.getElem?_append_left (by omega)] at hz
    obtain ⟨p', h4, h5⟩ := h3 i x z hx hz
    exact ⟨p', h4, sqT_lst h1 e2 h5⟩
  · rw [List.getElem?_append_right (by omega)] at hx hz
    have h0 : i - xs.length = 0 := by
      have := (List.getElem?_eq_some_iff.mp hx).1
      simp at this
      omega
    rw [show i - zs.length = 0 by omega] at hz
    rw [h0] at hx
    cases hx
    cases hz
    exact ⟨p, rfl, sqT_lst h1 e2 hp⟩
theorem pure_check_rows (h : sp_check_rows K vs H Q E) : t_check_rows K (E1 Q) (start ["signs", "states", "rows", "seen", "index", "row"] vs) H := by
  obtain ⟨s, t, u, rfl, st, rs, hs, ht, hst, hu, ⟨g1, g2, g3⟩, k⟩ := h
  obtain ⟨xs, hxs, hxl, hxp⟩ := hu
  rw [List.length_map] at hxl
  have h4 := hs.2.1
  have h6 := hst.2.1
  have hrl : rs.length ≤ 24 := by rw [g3]; exact Nat.mul_le_mul h4 h6
  have hpl : ∀ r ∈ rs, plain r.a ∧ r.c < 55296 := fun r hr => ⟨name_plain (hst.2.2.2 _ (g1 r hr).1), let_plain (isWord_in hs.1 _ (g1 r hr).2.1)⟩
  show t_check_rows K (E1 Q) [some (vS s), some (.ref t), some (.ref u), none, none, none] H
  unfold t_check_rows
  walk_at "go"
  refine s_isiK (Kd.tup hxs) (b := true) (by decide +kernel) ?_
  walk_at "go"
  rename_i q H0 nq e0 h0
  refine for_run walk_enumT (fun i σ H1 => ∃ x1 x2, σ = [some (vS s), some (.ref t), some (.ref u), some (.ref q), x1, x2] ∧ Ex [] H H1 ∧ PrsAt K H1 q ((rs.take i).map fun r => (r.a, r.c))) ⟨_, _, rfl, e0, ⟨[], h0, rfl, by simp⟩⟩ (fun i σ H1 _ ⟨_, _, _, e, _⟩ => e.sqT (by simp) hxs) ?_ ?_
  · rintro i x σ H1 H2 hi ⟨x2, x3, rfl, e1, h1⟩ ⟨T, y, z, rfl, hT, rfl, hy, hz⟩
    have hit : i < rs.length := by omega
    have hz : xs[i]? = some z := hz
    obtain ⟨p, rfl, hp⟩ := hxp i z (rwV rs[i]) hz (by rw [List.getElem?_map, List.getElem?_eq_getElem hit]; rfl)
    cases hy
    have e2 : Ex [] H1 (upd H1 T (.tup [.int (i : Nat), .ref p])) := Ex.new hT
    have h2 : (upd H1 T (.tup [.int (i : Nat), .ref p])) T = some (.tup [.int (i : Nat), .ref p]) := upd_same
    revert e2 h2
    generalize upd H1 T (.tup [.int (i : Nat), .ref p]) = H3
    intro e2 h2
    have hg := g1 _ (List.getElem_mem hit)
    have hc2 : cutV (rwV rs[i]) none (some 2) = [vS rs[i].a, vS [rs[i].c]] := by rw [cutV_to (by omega)]; rfl
    walk_at "go"
    refine u_is_step (r := rs[i]) (st := st) ((e1.trans e2).sqT (by simp) hp) ((e1.trans e2).sqT (by simp) ht) hg.1 hg.2.1 hg.2.2 fun H4 e4 => ?_
    walk_at "go"
    refine s_slA (xs := rwV rs[i]) (((e1.trans e2).trans e4).sqT (by simp) hp) fun q5 H5 e5 hs5 => ?_
    rw [hc2] at hs5
    walk_at "go"
    refine s_inPr (w := (rs[i].a, rs[i].c)) (((h1.ex0 e2).ex0 e4).ex0 e5) hs5 (fun z hz => ?_) (hpl _ (List.getElem_mem hit)) ?_
    · obtain ⟨r, hr, rfl⟩ := List.mem_map.mp hz
      exact hpl r (List.mem_of_mem_take hr)
    rw [decide_eq_false (show (rs[i].a, rs[i].c) ∉ (rs.take i).map fun r => (r.a, r.c) from fun z => by
      rw [List.map_take] at z
      have := not_mem_take g2 (i := i) (by rw [List.length_map]; exact hit)
      rw [List.getElem_map] at this
      exact this z)]
    obtain ⟨xq, hxq, _⟩ := id (((h1.ex0 e2).ex0 e4).ex0 e5)
    walk_at "go"
    refine s_slA (xs := rwV rs[i]) ((((e1.trans e2).trans e4).trans e5).sqT (by simp) hp) fun q6 H6 e6 hs6 => ?_
    rw [hc2] at hs6
    walk_at "go"
    refine s_appPr (w := (rs[i].a, rs[i].c)) ((((h1.ex0 e2).ex0 e4).ex0 e5).ex0 e6) hs6 (by rw [List.length_map, List.length_take]; omega) fun H7 e7 h7 => ?_
    refine ⟨_, _, rfl, Ex.drop nq ((((e1.trans e2).trans e4).trans e5).trans e6) e7, ?_⟩
    rw [take1 _ hit]
    exact h7
  · rintro σ H1 ⟨x2, x3, rfl, e1, _⟩
    walk_at "go"
    refine s_Fd (by rw [List.length_map, hxl, g3, Int.natCast_mul]; exact Int.lt_irrefl _) ?_
    exact k _ e1
end
end WB
namespace WB
open PySem PySem.Spec PyProof.Rows L2
def kS (l : List Nat) : Key := .inr (S l)
theorem kS_inj {a b : List Nat} (h : kS a = kS b) : a = b := S_inj (Sum.inr.inj h)
def TabOk (K : PySem.W.Frag) (H : Hp) (kt : List (List Key × V)) (M : LM) : Prop := ∀ a ∈ M.st, ∀ c ∈ M.ab, ∃ p, valV kt [kS a, kS [c]] = some (.ref p) ∧ SqT K H p [vS (M.tb a c).1, .int (M.tb a c).2]
def EndOk (K : PySem.W.Frag) (H : Hp) (ke : List (Key × V)) (M : LM) : Prop := ∀ a ∈ M.st, ∃ p, valV ke (kS a) = some (.ref p) ∧ SqT K H p [vS (M.en a).1, .int (M.en a).2]
def LoopAt (K : PySem.W.Frag) (H : Hp) (x : Addr) (M : LM) : Prop := ∃ dx o tt te tm kt ke, H x = some (.ins (He.ga K "Loop") dx [("letters", vS M.ab), ("order", .ref o), ("table", .ref tt), ("ending", .ref te), ("marked", .ref tm)]) ∧
  SqT K H o (M.st.map vS) ∧ H tt = some (.dT kt) ∧ TabOk K H kt M ∧ H te = some (.dK ke) ∧ EndOk K H ke M ∧ SqT K H tm (M.ok.map vS)
structure LoopK (K : PySem.W.Frag) : Prop where
  cl : Cls K (He.ga K "Loop")
  n1 : NoAttr K (He.ga K "Loop") "letters"
  n2 : NoAttr K (He.ga K "Loop") "order"
  n3 : NoAttr K (He.ga K "Loop") "table"
  n4 : NoAttr K (He.ga K "Loop") "ending"
  n5 : NoAttr K (He.ga K "Loop") "marked"
section
variable {K : PySem.W.Frag} {H H' : Hp} {Q : VK} {E : XK} {x a : Addr} {M : LM}
theorem TabOk.ex0 {kt : List (List Key × V)} (e : Ex [] H H') (h : TabOk K H kt M) : TabOk K H' kt M := fun a ha c hc => by
  obtain ⟨p, h1, h2⟩ := h a ha c hc
  exact ⟨p, h1, e.sqT (by simp) h2⟩
theorem EndOk.ex0 {ke : List (Key × V)} (e : Ex [] H H') (h : EndOk K H ke M) : EndOk K H' ke M := fun a ha => by
  obtain ⟨p, h1, h2⟩ := h a ha
  exact ⟨p, h1, e.sqT (by simp) h2⟩
theorem TabOk.exP {kt : List (List Key × V)} (hp : PoolAt H a) (e : Ex [a] H H') (h : TabOk K H kt M) : TabOk K H' kt M := fun b hb c hc => by
  obtain ⟨p, h1, h2⟩ := h b hb c hc
  exact ⟨p, h1, sqT_pool hp e h2⟩
theorem EndOk.exP {ke : List (Key × V)} (hp : PoolAt H a) (e : Ex [a] H H') (h : EndOk K H ke M) : EndOk K H' ke M := fun b hb => by
  obtain ⟨p, h1, h2⟩ := h b hb
  exact ⟨p, h1, sqT_pool hp e h2⟩
theorem LoopAt.ex0 (e : Ex [] H H') (h : LoopAt K H x M) : LoopAt K H' x M := by
  obtain ⟨dx, o, tt, te, tm, kt, ke, h1, h2, h3, h4, h5, h6, h7⟩ := h
  exact ⟨dx, o, tt, te, tm, kt, ke, e.get0 h1, e.sqT (by simp) h2, e.get0 h3, h4.ex0 e, e.get0 h5, h6.ex0 e, e.sqT (by simp) h7⟩
theorem LoopAt.exP (hp : PoolAt H a) (e : Ex [a] H H') (h : LoopAt K H x M) : LoopAt K H' x M := by
  obtain ⟨dx, o, tt, te, tm, kt, ke, h1, h2, h3, h4, h5, h6, h7⟩ := h
  have hq := hp
  obtain ⟨y1, y2, y3, hq⟩ := hq
  exact ⟨dx, o, tt, te, tm, kt, ke, e.get (by simp only [List.mem_singleton]; intro w; rw [w, hq] at h1; cases h1) h1, sqT_pool hp e h2, e.get (by simp only [List.mem_singleton]; intro w; rw [w, hq] at h3; cases h3) h3, h4.exP hp e, e.get (by simp only [List.mem_singleton]; intro w; rw [w, hq] at h5; cases h5) h5, h6.exP hp e, sqT_pool hp e h7⟩
def DcTW (J : It) (g : TG) (tt : TT) (tk tv : TE) (vs : List Nat) (σ : St) (H1 : Hp) (Q : VK) : Prop := ∀ D, H1 D = none → ∃ W : Nat → Nat → Hp → Prop, (∃ m, W 0 m (upd H1 D (.dT []))) ∧ ∀ i m H, W i m H →
  (J.stop i H ∧ Q (.ref D) H) ∨ (J.go i H ∧ ∃ Nx : Hp → Prop, (∀ H', Nx H' → ∃ m', m' < m ∧ W (i + 1) m' H') ∧ ∀ x H', J.yld i H x H' → g x (wipe σ vs) H' fun σ2 H2 => wipe σ2 vs = wipe σ vs ∧ tt σ2 H2 fun c H3 =>
    if c = true then tk σ2 H3 fun y H4 => tv σ2 H4 fun z H5 => ∃ kvs k b, y = .ref b ∧ H5 b = some (.tup (k.map kV)) ∧ H5 D = some (.dT kvs) ∧ kvs.length < sizeLine ∧ Nx (upd H5 D (.dT (putK kvs k z))) else Nx H3)
theorem s_dcT {wi : TI} {g : TG} {tt : TT} {tk tv : TE} {vs : List Nat} {σ : St} (k : wi σ H fun J H1 => DcTW J g tt tk tv vs σ H1 Q) : tDcT wi g tt tk tv vs σ H Q := k
def DcW (J : It) (g : TG) (tt : TT) (tk tv : TE) (vs : List Nat) (σ : St) (H1 : Hp) (Q : VK) : Prop := ∀ D, H1 D = none → ∃ W : Nat → Nat → Hp → Prop, (∃ m, W 0 m (upd H1 D (.dK []))) ∧ ∀ i m H, W i m H →
  (J.stop i H ∧ Q (.ref D) H) ∨ (J.go i H ∧ ∃ Nx : Hp → Prop, (∀ H', Nx H' → ∃ m', m' < m ∧ W (i + 1) m' H') ∧ ∀ x H', J.yld i H x H' → g x (wipe σ vs) H' fun σ2 H2 => wipe σ2 vs = wipe σ vs ∧ tt σ2 H2 fun c H3 =>
    if c = true then tk σ2 H3 fun y H4 => tv σ2 H4 fun z H5 => ∃ kvs k, y = kV k ∧ H5 D = some (.dK kvs) ∧ kvs.length < sizeLine ∧ Nx (upd H5 D (.dK (putK kvs k z))) else Nx H3)
theorem s_dc {wi : TI} {g : TG} {tt : TT} {tk tv : TE} {vs : List Nat} {σ : St} (k : wi σ H fun J H1 => DcW J g tt tk tv vs σ H1 Q) : tDc wi g tt tk tv vs σ H Q := k
theorem dcT_it {J : It} {n : Nat} {G : Hp → Prop} {Y : Nat → Hp → V → Hp → Prop} (w : Walk J n G Y) {g : TG} {tt : TT} {tk tv : TE} {vs : List Nat} {σ : St} (Pv : Addr → Nat → Hp → Prop) (h0 : ∀ D, H D = none → Pv D 0 (upd H D (.dT []))) (hG : ∀ D i H1, i ≤ n → Pv D i H1 → G H1)
    (hs : ∀ D i x H1 H2, i < n → Pv D i H1 → Y i H1 x H2 → g x (wipe σ vs) H2 fun σ2 H2 => wipe σ2 vs = wipe σ vs ∧ tt σ2 H2 fun c H3 =>
      if c = true then tk σ2 H3 fun y H4 => tv σ2 H4 fun z H5 => ∃ kvs k b, y = .ref b ∧ H5 b = some (.tup (k.map kV)) ∧ H5 D = some (.dT kvs) ∧ kvs.length < sizeLine ∧ Pv D (i + 1) (upd H5 D (.dT (putK kvs k z))) else Pv D (i + 1) H3)
    (hd : ∀ D H1, H D = none → Pv D n H1 → Q (.ref D) H1) : DcTW J g tt tk tv vs σ H Q := by
  intro D hD
  refine ⟨fun i m H => m = n - i ∧ i ≤ n ∧ Pv D i H, ⟨n, by simp, Nat.zero_le _, h0 D hD⟩, ?_⟩
  rintro i m H1 ⟨rfl, hi, p⟩
  rcases Nat.lt_or_ge i n with h | h
  · exact .inr ⟨w.goes i H1 h (hG D i H1 hi p), fun H' => Pv D (i + 1) H', fun H' p' => ⟨n - (i + 1), by omega, rfl, by omega, p'⟩, fun x H' y => hs D i x H1 H' h p (w.yields i H1 x H' h (hG D i H1 hi p) y)⟩
  · have : i = n := by omega
    subst this
    exact .inl ⟨w.stops H1 (hG D _ H1 hi p), hd D H1 hD p⟩
theorem dc_it {J : It} {n : Nat} {G : Hp → Prop} {Y : Nat → Hp → V → Hp → Prop} (w : Walk J n G Y) {g : TG} {tt : TT} {tk tv : TE} {vs : List Nat} {σ : St} (Pv : Addr → Nat → Hp → Prop) (h0 : ∀ D, H D = none → Pv D 0 (upd H D (.dK []))) (hG : ∀ D i H1, i ≤ n → Pv D i H1 → G H1)
    (hs : ∀ D i x H1 H2, i < n → Pv D i H1 → Y i H1 x H2 → g x (wipe σ vs) H2 fun σ2 H2 => wipe σ2 vs = wipe σ vs ∧ tt σ2 H2 fun c H3 =>
      if c = true then tk σ2 H3 fun y H4 => tv σ2 H4 fun z H5 => ∃ kvs k, y = kV k ∧ H5 D = some (.dK kvs) ∧ kvs.length < sizeLine ∧ Pv D (i + 1) (upd H5 D (.dK (putK kvs k z))) else Pv D (i + 1) H3)
    (hd : ∀ D H1, H D = none → Pv D n H1 → Q (.ref D) H1) : DcW J g tt tk tv vs σ H Q := by
  intro D hD
  refine ⟨fun i m H => m = n - i ∧ i ≤ n ∧ Pv D i H, ⟨n, by simp, Nat.zero_le _, h0 D hD⟩, ?_⟩
  rintro i m H1 ⟨rfl, hi, p⟩
  rcases Nat.lt_or_ge i n with h | h
  · exact .inr ⟨w.goes i H1 h (hG D i H1 hi p), fun H' => Pv D (i + 1) H', fun H' p' => ⟨n - (i + 1), by omega, rfl, by omega, p'⟩, fun x H' y => hs D i x H1 H' h p (w.yields i H1 x H' h (hG D i H1 hi p) y)⟩
  · have : i = n := by omega
    subst this
    exact .inl ⟨w.stops H1 (hG D _ H1 hi p), hd D H1 hD p⟩
def tbOf (rs : List Rw) (a : List Nat) (c : Nat) : List Nat × Int := ((rs.find? fun r => decide (r.a = a ∧ r.c = c)).map fun r => (r.b, r.n)).getD (a, 0)
def enOf (ts : List Tn) (a : List Nat) : List Nat × Int := ((ts.find? fun t => decide (t.a = a)).map fun t => (t.b, t.n)).getD (a, 0)
def mkLM (s : List Nat) (st : List (List Nat)) (rs : List Rw) (ts : List Tn) (ys : List (List Nat)) : LM := ⟨sgn s, st, tbOf rs, enOf ts, st.filter fun a => decide (a ∈ ys)⟩
def sp_Loop_init (K : PySem.W.Frag) : Sp := fun vs H Q _ => ∃ (x : Addr) (s : List Nat) (t u v w dx : Addr), vs = [.ref x, vS s, .ref t, .ref u, .ref v, .ref w] ∧ H x = some (.ins (He.ga K "Loop") dx []) ∧
  ∃ (st : List (List Nat)) (rs : List Rw) (ts : List Tn) (ys : List (List Nat)), goodS s ∧ SqT K H t (st.map vS) ∧ goodSt st ∧ TupsAt K H u (rs.map rwV) ∧ goodRws s st rs ∧ TupsAt K H v (ts.map tnV) ∧ goodTns st ts ∧ SqT K H w (ys.map vS) ∧ goodYes st ys ∧
  ∀ H', Ex [x] H H' → LoopAt K H' x (mkLM s st rs ts ys) → Q .non H'
end
end WB
namespace WB
open PySem PySem.Spec PyProof.Rows L2
local macro_rules | `(tactic| walk_at "lit") => `(tactic| first | exact lit_abc | exact lit_empty)
local macro_rules | `(tactic| walk_at "nm") => `(tactic| focus first | exact List.not_mem_nil | (simp only [List.mem_singleton]; first | assumption | (exact Ne.symm (by assumption)) | (intro hz; subst hz; simp_all; done)))
local macro_rules | `(tactic| walk_at "hp") => `(tactic| first | assumption | (apply Ex.get0 (by assumption); walk_at "hp") | (apply Ex.get (by assumption); (walk_at "nm"); (walk_at "hp")))
local macro_rules | `(tactic| walk_at "sq") => `(tactic| first | assumption | (apply SqL.of; walk_at "hp") | (apply Ex.sqL (by assumption); (walk_at "nm"); (walk_at "sq")))
local macro_rules | `(tactic| walk_at "sqt") => `(tactic| first | assumption | (apply SqT.of; walk_at "hp") | (apply Ex.sqT (by assumption); (walk_at "nm"); (walk_at "sqt")))
local macro_rules | `(tactic| walk_at "sz") => `(tactic| focus ((with_reducible refine Nat.le_trans (m := 100000) ?_ (by decide)); first | omega | (simp; done) | (simp; omega)))
local macro_rules | `(tactic| walk_at "mul") => `(tactic| first | exact Or.inr ⟨by omega, by omega⟩ | exact Or.inl ⟨by omega, by omega⟩)
local macro_rules | `(tactic| walk_at "pool") => `(tactic| first | assumption | (apply PoolAt.ex (by assumption); (walk_at "nm"); (walk_at "pool")))
local macro_rules | `(tactic| walk_at "ring") => `(tactic| first | assumption | (apply RingAt.ex (by assumption); (walk_at "nm"); (walk_at "ring")))
local macro_rules | `(tactic| walk_at "st") => `(tactic| first
  | with_reducible refine s_seq ?_
  | with_reducible refine s_asg ?_
  | with_reducible refine s_gName ?_
  | with_reducible refine s_ret ?_
  | with_reducible refine s_ifS ?_
  | with_reducible refine s_next ?_
  | with_reducible refine s_op ?_
  | ((with_reducible apply s_var); exact rfl)
  | ((with_reducible apply s_cS); (walk_at "lit"))
  | with_reducible refine s_c ?_
  | with_reducible refine s_cb ?_
  | with_reducible refine s_cons ?_
  | with_reducible refine s_nil ?_
  | with_reducible refine s_un ?_
  | with_reducible refine s_call ?_
  | with_reducible refine s_test ?_
  | with_reducible refine s_tB ?_
  | with_reducible refine s_blQ ?_
  | with_reducible refine s_not ?_
  | with_reducible refine s_and ?_
  | with_reducible refine s_or ?_
  | with_reducible refine s_andV ?_
  | with_reducible refine s_orV ?_
  | with_reducible refine s_notV ?_
  | with_reducible refine s_ifE ?_
  | with_reducible refine s_chain ?_
  | ((with_reducible refine s_T ?_ ?_); (with_reducible exact rfl))
  | with_reducible refine s_nT ?_
  | with_reducible refine s_nF ?_
  | ((with_reducible refine s_F ?_ ?_); (with_reducible exact rfl))
  | ((with_reducible refine s_T ?_ ?_); assumption)
  | ((with_reducible refine s_F ?_ ?_); assumption)
  | ((with_reducible refine s_nB ?_ ?_); assumption)
  | ((with_reducible refine s_nA ?_ ?_); assumption)
  | ((with_reducible refine s_Td ?_ ?_); omega)
  | ((with_reducible refine s_Fd ?_ ?_); omega)
  | ((with_reducible refine s_nTd ?_ ?_); omega)
  | ((with_reducible refine s_nFd ?_ ?_); omega)
  | with_reducible refine s_sfld ?_
  | with_reducible refine s_addI ?_
  | with_reducible refine s_subI ?_
  | ((with_reducible refine s_mulI ?_ ?_); (walk_at "mul"))
  | ((with_reducible refine s_divI ?_ ?_); exact ⟨by omega, by omega⟩)
  | ((with_reducible refine s_modI ?_ ?_); omega)
  | ((with_reducible refine s_powI ?_ ?_); exact ⟨by decide, by decide, by decide⟩)
  | with_reducible refine s_ltI ?_
  | with_reducible refine s_leI ?_
  | with_reducible refine s_gtI ?_
  | with_reducible refine s_geI ?_
  | with_reducible refine s_negI ?_
  | with_reducible refine s_absI ?_
  | with_reducible refine s_intI ?_
  | with_reducible refine s_min2 ?_
  | with_reducible refine s_max2 ?_
  | with_reducible refine s_eqI ?_
  | with_reducible refine s_neI ?_
  | with_reducible refine s_eqS ?_
  | with_reducible refine s_neS ?_
  | with_reducible refine s_inSg ?_
  | with_reducible refine s_notInSg ?_
  | ((with_reducible refine s_addS ?_ ?_); (walk_at "sz"))
  | ((with_reducible refine s_lenS ?_ ?_); (walk_at "sz"))
  | ((with_reducible apply s_lenL); (walk_at "sq"))
  | ((with_reducible apply s_lenT); (walk_at "sqt"))
  | ((with_reducible apply s_ixL); (walk_at "sq"); exact rfl)
  | ((with_reducible apply s_ixT); (walk_at "sqt"); exact rfl)
  | with_reducible refine s_gSub ?_
  | ((with_reducible apply s_setL); (walk_at "hp"); (exact rfl); (intro _ _ _))
  | ((with_reducible refine s_alloc ?_ ?_); (walk_at "sz"); (intro _ _ _ _ _))
  | ((with_reducible refine s_divmod ?_ ?_); (exact ⟨by omega, PyProof.noPylong_small (by omega)⟩); (intro _ _ _ _ _))
  | ((with_reducible apply s_gTup); (walk_at "sqt"); (exact rfl))
  | ((with_reducible apply s_gLst); (walk_at "sq"); (exact rfl))
  | with_reducible refine s_gCons ?_
  | with_reducible refine s_gNil ?_
  | with_reducible refine s_lc ?_
  | ((with_reducible apply s_cat); (walk_at "hp"); (walk_at "hp"); (walk_at "sz"); (intro _ _ _ _ _))
  | ((with_reducible apply s_slL); (walk_at "sq"); (intro _ _ _ _ _))
  | with_reducible refine s_for ?_
  | with_reducible refine s_rng1 ?_
  | ((with_reducible refine s_rng1i ?_ ?_); (constructor <;> omega))
  | with_reducible refine s_rng2 ?_
  | ((with_reducible refine s_rng2i ?_ ?_); (refine ⟨?_, ?_, ?_, ?_⟩ <;> omega))
  | with_reducible refine s_iStr ?_
  | with_reducible refine s_iStrS ?_
  | with_reducible refine s_iList ?_
  | ((with_reducible apply s_iListA); (walk_at "sq"))
  | with_reducible refine s_iTup ?_
  | ((with_reducible apply s_iTupA); (walk_at "sqt"))
  | with_reducible refine s_sl ?_
  | with_reducible refine s_noPart ?_
  | with_reducible refine s_part ?_
  | with_reducible refine s_int1 ?_
  | ((with_reducible refine s_slS ?_ ?_); (walk_at "sz"))
  | with_reducible refine s_tup ?_
  | with_reducible refine s_lst ?_
  | with_reducible refine s_par ?_
  | with_reducible refine s_pair ?_
  | with_reducible refine s_M1 ?_
  | with_reducible refine s_isStr ?_
  | with_reducible refine s_revS ?_
  | ((with_reducible refine s_revS1 ?_ ?_); (walk_at "sz"))
  | with_reducible refine s_fldE ?_
  | with_reducible refine s_propE ?_
  | ((with_reducible refine u_draw ?_ ?_ ?_ ?_); omega; omega; (walk_at "pool"); (intro _ _ _ _ _ _))
  | ((with_reducible refine u_pool ?_); (intro _ _ _ _ _))
  | with_reducible refine u_is_integer ?_
  | with_reducible refine s_isiII ?_
  | with_reducible refine s_isiIB ?_
  | with_reducible refine s_isiSS ?_
  | ((with_reducible apply u_fldRing); assumption; (walk_at "ring"))
  | ((with_reducible apply u_textP); (walk_at "ring"))
  | ((with_reducible apply u_strRing); (walk_at "ring"))
  | ((with_reducible apply u_eqRing); (walk_at "ring"); (walk_at "ring"))
  | ((with_reducible apply u_isiRing); assumption; (walk_at "ring"))
  | ((with_reducible refine u_is_word ?_ ?_); omega; (intro _ _))
  | ((with_reducible refine u_turnings ?_ ?_); omega; (intro _ _ _ _ _))
  | with_reducible refine s_makeE ?_
  | with_reducible refine s_methE ?_)
local macro_rules | `(tactic| walk_at "go") => `(tactic| repeat (walk_at "st"))
local macro_rules | `(tactic| walk_at "exs") => `(tactic| first | exact Ex.rfl | assumption | (apply Ex.snoc (by assumption); walk_at "exs") | (apply Ex.snocW (by assumption); walk_at "exs"))
local macro_rules | `(tactic| walk_at "kind") => `(tactic| first | assumption | (apply KindAt.ex0 (by assumption); (walk_at "kind")) | (apply KindAt.exP (by assumption) (by assumption); (walk_at "kind")))
local macro_rules | `(tactic| walk_at "st") => `(tactic| first
  | with_reducible refine s_lenSet ?_
  | with_reducible refine s_drop ?_
  | with_reducible refine s_bm ?_
  | with_reducible refine s_notN ?_
  | with_reducible refine s_isN ?_
  | ((with_reducible apply s_tyL); (walk_at "hp"))
  | with_reducible refine s_enumT ?_
  | ((with_reducible apply s_enumTA); (walk_at "sqt"))
  | with_reducible refine s_lc2 ?_)
local macro_rules | `(tactic| walk_at "lit") => `(tactic| exact lit_MRK)
local macro_rules | `(tactic| walk_at "st") => `(tactic| first
  | with_reducible refine s_dcT ?_
  | with_reducible refine s_dc ?_)
def t_Loop_init (K : PySem.W.Frag) : TS :=
  (tSeq (tDrop (tCall (sp_check_signs K) [] E0 (tCons (tVar 1) tNil)))
  (tSeq (tDrop (tCall (sp_check_states K) [] E0 (tCons (tVar 2) tNil)))
  (tSeq (tDrop (tCall (sp_check_rows K) [] E0 (tCons (tVar 1) (tCons (tVar 2) (tCons (tVar 3) tNil)))))
  (tSeq (tDrop (tCall (sp_check_turns K) [] E0 (tCons (tVar 2) (tCons (tVar 4) tNil))))
  (tSeq (tDrop (tCall (sp_check_yes K) [] E0 (tCons (tVar 2) (tCons (tVar 5) tNil))))
  (tSeq (sFld K (tVar 0) (tM1 (rJoin K) (tC (.str "")) (tCB (rSrt K) (tCons (tVar 1) tNil))) "letters")
  (tSeq (sFld K (tVar 0) (tVar 2) "order")
  (tSeq (sFld K (tVar 0) (tDcT (iTup K (tVar 3)) (gTup K 4 (gCons (gName 6) (gCons (gName 7) (gCons (gName 8) (gCons (gName 9) gNil))))) tYes (tTup (tCons (tVar 6) (tCons (tVar 7) tNil))) (tTup (tCons (tVar 8) (tCons (tVar 9) tNil))) [6, 7, 8, 9]) "table")
  (tSeq (tAsg (tDc (iTup K (tVar 4)) (gTup K 3 (gCons (gName 6) (gCons (gName 8) (gCons (gName 9) gNil)))) tYes (tVar 6) (tTup (tCons (tVar 8) (tCons (tVar 9) tNil))) [6, 8, 9]) (gName 10))
  (tSeq (sFld K (tVar 0) (tDc (iTup K (tVar 2)) (gName 6) tYes (tVar 6) (tDGet2 (tVar 10) (tVar 6) (tTup (tCons (tVar 6) (tCons (tC (.int 0)) tNil)))) [6]) "ending")
  (sFld K (tVar 0) (tCB (rTupOf K) (tCons (tLc (iTup K (tVar 2)) (gName 6) (tTest (tOp (rIn K false) (tVar 6) (tVar 5))) (tVar 6) [6]) tNil)) "marked")))))))))))
section
variable {K : PySem.W.Frag} {vs : List V} {H H' : Hp} {Q : VK} {E : XK}
theorem sqT_ins {x t C dx : Addr} {fs : List (Str × V)} {ys : List V} (hx : H x = some (.ins C dx fs)) (e : Ex [x] H H') (h : SqT K H t ys) : SqT K H' t ys := by
  rcases h with (h | ⟨o, h⟩) | h
  · exact e.sqT (by simp only [List.mem_singleton]; intro w; rw [w, hx] at h; cases h) (.inl (.inl h))
  · exact e.sqT (by simp only [List.mem_singleton]; intro w; rw [w, hx] at h; cases h) (.inl (.inr ⟨o, h⟩))
  · exact .inr h
theorem TupsAt.exI {x t C dx : Addr} {fs : List (Str × V)} {ls : List (List V)} (hx : H x = some (.ins C dx fs)) (e : Ex [x] H H') (h : TupsAt K H t ls) : TupsAt K H' t ls := by
  obtain ⟨xs, h1, h2, h3⟩ := h
  refine ⟨xs, sqT_ins hx e h1, h2, fun i y l hy hl => ?_⟩
  obtain ⟨p, h4, h5⟩ := h3 i y l hy hl
  exact ⟨p, h4, sqT_ins hx e h5⟩
theorem s_setF {f : Str} {y : V} {n : Hp → Prop} {x C dx : Addr} {fs : List (Str × V)} (hx : H x = some (.ins C dx fs)) (c : Cls K C) (na : NoAttr K C f) (hl : fs.length < 30) (k : ∀ H', Ex [x] H H' → H' x = some (.ins C dx (putF f y fs)) → n H') : SetG K f y (.ref x) H n :=
  ⟨x, _, dx, _, rfl, hx, c, na, by first | exact hl | omega, k _ (Ex.put (by simp)) upd_same⟩
def TabR (K : PySem.W.Frag) (H : Hp) (kvs : List (List Key × V)) (rs : List Rw) : Prop := ∀ r ∈ rs, ∃ p, valV kvs [kS r.a, kS [r.c]] = some (.ref p) ∧ SqT K H p [vS r.b, .int r.n]
def EndR (K : PySem.W.Frag) (H : Hp) (kvs : List (Key × V)) (ts : List Tn) : Prop := ∀ t ∈ ts, ∃ p, valV kvs (kS t.a) = some (.ref p) ∧ SqT K H p [vS t.b, .int t.n]
theorem key2 {a b : List Nat} {c d : Nat} (h : [kS a, kS [c]] = [kS b, kS [d]]) : a = b ∧ c = d := by
  injection h with h1 h2
  injection h2 with h2 _
  have := kS_inj h2
  exact ⟨kS_inj h1, by simpa using this⟩
theorem tab_all {s : List Nat} {st : List (List Nat)} {rs : List Rw} (h : goodRws s st rs) {a : List Nat} {c : Nat} (ha : a ∈ st) (hc : c ∈ s) : ∃ r ∈ rs, r.a = a ∧ r.c = c := by
  obtain ⟨g1, g2, g3⟩ := h
  have hp := perm_of_sub (rs.map fun r => (r.a, r.c)) (st.flatMap fun a => s.map fun c => (a, c)) g2 (fun p hp => by
    obtain ⟨r, hr, rfl⟩ := List.mem_map.mp hp
    exact List.mem_flatMap.mpr ⟨r.a, (g1 r hr).1, List.mem_map.mpr ⟨r.c, (g1 r hr).2.1, rfl⟩⟩) (by
    rw [List.length_map, g3, List.length_flatMap]
    simp only [List.length_map]
    have : ∀ (l : List (List Nat)) (n : Nat), (l.map fun _ => n).sum = l.length * n := by
      intro l n
      induction l with
      | nil => simp
      | cons x l ih => rw [List.map_cons, List.sum_cons, ih, List.length_cons, Nat.succ_mul]; omega
    rw [this, Nat.mul_comm]
    exact Nat.le_refl _)
  have := hp.mem_iff.mpr (List.mem_flatMap.mpr ⟨a, ha, List.mem_map.mpr ⟨c, hc, rfl⟩⟩)
  obtain ⟨r, hr, e⟩ := List.mem_map.mp this
  injection e with e1 e2
  exact ⟨r, hr, e1, e2⟩
theorem tb_of {rs : List Rw} (g2 : (rs.map fun r => (r.a, r.c)).Nodup) : ∀ {r : Rw}, r ∈ rs → tbOf rs r.a r.c = (r.b, r.n) := by
  induction rs with
  | nil => intro r h; cases h
  | cons x rs ih =>
    intro r h
    obtain ⟨h1, h2⟩ := List.nodup_cons.mp g2
    unfold tbOf
    rw [List.find?_cons]
    rcases List.mem_cons.mp h with rfl | h
    · simp
    · have : ¬ (x.a = r.a ∧ x.c = r.c) := fun z => h1 (List.mem_map.mpr ⟨r, h, by simp only [z.1, z.2]⟩)
      rw [decide_eq_false this]
      exact ih h2 h
theorem en_of {ts : List Tn} (g2 : (ts.map fun t => t.a).Nodup) : ∀ {t : Tn}, t ∈ ts → enOf ts t.a = (t.b, t.n) := by
  induction ts with
  | nil => intro r h; cases h
  | cons x ts ih =>
    intro r h
    obtain ⟨h1, h2⟩ := List.nodup_cons.mp g2
    unfold enOf
    rw [List.find?_cons]
    rcases List.mem_cons.mp h with rfl | h
    · simp
    · have : ¬ (x.a = r.a) := fun z => h1 (List.mem_map.mpr ⟨r, h, z.symm⟩)
      rw [decide_eq_false this]
      exact ih h2 h
theorem en_no {ts : List Tn} {a : List Nat} (h : a ∉ ts.map fun t => t.a) : enOf ts a = (a, 0) := by
  unfold enOf
  rw [List.find?_eq_none.mpr fun t ht => by
    simp only [decide_eq_true_eq]
    exact fun z => h (List.mem_map.mpr ⟨t, ht, z⟩)]
  rfl
theorem upd_TabR {D : Addr} {o : HO} {kvs : List (List Key × V)} {rs : List Rw} (h1 : ∃ ks, H D = some (.dT ks)) (h : TabR K H kvs rs) : TabR K (upd H D o) kvs rs := fun r hr => by
  obtain ⟨p, h2, h3⟩ := h r hr
  obtain ⟨ks, h1⟩ := h1
  refine ⟨p, h2, ?_⟩
  have e : Ex [D] H (upd H D o) := Ex.put (by simp)
  rcases h3 with (h | ⟨ob, h⟩) | h
  · exact e.sqT (by simp only [List.mem_singleton]; intro w; rw [w, h1] at h; cases h) (.inl (.inl h))
  · exact e.sqT (by simp only [List.mem_singleton]; intro w; rw [w, h1] at h; cases h) (.inl (.inr ⟨ob, h⟩))
  · exact .inr h
theorem dc_table {u : Addr} {rs : List Rw} {σ : St} {a1 a2 a3 a4 : Nat} (τ : V → V → V → V → St)
    (hτ : ∀ A B C D, ((((wipe σ [a1, a2, a3, a4]).set a1 (some A)).set a2 (some B)).set a3 (some C)).set a4 (some D) = τ A B C D) (hw : ∀ A B C D, wipe (τ A B C D) [a1, a2, a3, a4] = wipe σ [a1, a2, a3, a4])
    (l1 : ∀ A B C D, (τ A B C D)[a1]? = some (some A)) (l2 : ∀ A B C D, (τ A B C D)[a2]? = some (some B)) (l3 : ∀ A B C D, (τ A B C D)[a3]? = some (some C)) (l4 : ∀ A B C D, (τ A B C D)[a4]? = some (some D))
    (hu : TupsAt K H u (rs.map rwV)) (hn : rs.length ≤ 1000) (g2 : (rs.map fun r => (r.a, r.c)).Nodup)
    (k : ∀ D H' kvs, H D = none → Ex [] H H' → H' D = some (.dT kvs) → TabR K H' kvs rs → Q (.ref D) H') :
    ∃ b, V.ref u = .ref b ∧ (∃ xs, SqT K H b xs) ∧ DcTW (Itt K b) (gTup K 4 (gCons (gName a1) (gCons (gName a2) (gCons (gName a3) (gCons (gName a4) gNil))))) tYes (tTup (tCons (tVar a1) (tCons (tVar a2) tNil))) (tTup (tCons (tVar a3) (tCons (tVar a4) tNil))) [a1, a2, a3, a4] σ H Q := by
  obtain ⟨xs, hxs, hxl, hxp⟩ := hu
  rw [List.length_map] at hxl
  refine ⟨u, rfl, ⟨xs, hxs⟩, dcT_it (walk_tup (xs := xs)) (fun D i H1 => Ex [] H H1 ∧ H D = none ∧ ∃ kvs, H1 D = some (.dT kvs) ∧ kvs.length ≤ i ∧ TabR K H1 kvs (rs.take i)) (fun D hD => ⟨Ex.new hD, hD, [], upd_same, Nat.le_refl _, by intro r hr; simp at hr⟩) (fun D i H1 _ h => h.1.sqT (by simp) hxs) ?_ ?_⟩
  · rintro D i x H1 H2 hi ⟨e1, hD, kvs, h1, hl, ht⟩ ⟨rfl, hx⟩
    have hit : i < rs.length := by omega
    obtain ⟨p, rfl, hp⟩ := hxp i x (rwV rs[i]) hx (by rw [List.getElem?_map, List.getElem?_eq_getElem hit]; rfl)
    refine s_gTup (e1.sqT (by simp) hp) rfl ?_
    unfold rwV
    refine s_gCons ?_
    refine s_gName ?_
    refine s_gCons ?_
    refine s_gName ?_
    refine s_gCons ?_
    refine s_gName ?_
    refine s_gCons ?_
    refine s_gName ?_
    refine s_gNil ?_
    rw [hτ]
    refine ⟨hw _ _ _ _, ?_⟩
    refine s_yes ?_
    refine s_T rfl ?_
    refine s_tup ?_
    refine s_cons ?_
    refine s_var (l1 _ _ _ _) ?_
    refine s_cons ?_
    refine s_var (l2 _ _ _ _) ?_
    refine s_nil ?_
    refine s_alloc (by show 2 ≤ sizeLine; decide) fun q3 H3 n3 e3 h3 => ?_
    refine s_tup ?_
    refine s_cons ?_
    refine s_var (l3 _ _ _ _) ?_
    refine s_cons ?_
    refine s_var (l4 _ _ _ _) ?_
    refine s_nil ?_
    refine s_alloc (by show 2 ≤ sizeLine; decide) fun q4 H4 n4 e4 h4 => ?_
    have hD4 : H4 D = some (.dT kvs) := e4.get0 (e3.get0 h1)
    refine ⟨kvs, [kS rs[i].a, kS [rs[i].c]], q3, rfl, e4.get0 h3, hD4, Nat.lt_of_le_of_lt hl (Nat.lt_of_lt_of_le hit (Nat.le_trans hn (by decide))), ?_, hD, _, upd_same, ?_, ?_⟩
    · intro b o nb hb
      rw [upd_ne (ne_of_none hb hD)]
      exact e4.get0 (e3.get0 (e1 b o nb hb))
    · have := length_putK kvs [kS rs[i].a, kS [rs[i].c]] (.ref q4)
      omega
    · intro r hr
      have hT : TabR K H4 kvs (rs.take i) := fun r hr => by
        obtain ⟨p, z1, z2⟩ := ht r hr
        exact ⟨p, z1, (e3.trans e4).sqT (by simp) z2⟩
      rw [List.take_add_one, List.getElem?_eq_getElem hit] at hr
      rcases List.mem_append.mp hr with hr | hr
      · obtain ⟨p', z1, z2⟩ := upd_TabR (o := .dT (putK kvs [kS rs[i].a, kS [rs[i].c]] (.ref q4))) ⟨_, hD4⟩ hT r hr
        refine ⟨p', ?_, z2⟩
        rw [valV_put, if_neg, z1]
        intro z
        obtain ⟨z3, z4⟩ := key2 z
        have := not_mem_take g2 (i := i) (by rw [List.length_map]; exact hit)
        rw [List.getElem_map, ← List.map_take] at this
        exact this (List.mem_map.mpr ⟨r, hr, by simp only [z3, z4]⟩)
      · have hr' : r = rs[i] := by simpa using hr
        subst hr'
        refine ⟨q4, by rw [valV_put, if_pos rfl], SqT.of ?_⟩
        rw [upd_ne (fun z => by rw [z, hD4] at h4; cases h4)]
        exact h4
  · rintro D H1 hD ⟨e1, _, kvs, h1, hl, ht⟩
    rw [hxl, List.take_length] at ht
    exact k D H1 kvs hD e1 h1 ht
def GivR (K : PySem.W.Frag) (H : Hp) (kvs : List (Key × V)) (ts : List Tn) : Prop := EndR K H kvs ts ∧ ∀ a, a ∉ ts.map (fun t => t.a) → valV kvs (kS a) = none
theorem sqT_dK {D t : Addr} {ks : List (Key × V)} {xs : List V} {o : HO} (h1 : H D = some (.dK ks)) (h : SqT K H t xs) : SqT K (upd H D o) t xs := by
  have e : Ex [D] H (upd H D o) := Ex.put (by simp)
  rcases h with (h | ⟨ob, h⟩) | h
  · exact e.sqT (by simp only [List.mem_singleton]; intro w; rw [w, h1] at h; cases h) (.inl (.inl h))
  · exact e.sqT (by simp only [List.mem_singleton]; intro w; rw [w, h1] at h; cases h) (.inl (.inr ⟨ob, h⟩))
  · exact .inr h
theorem dc_given {u : Addr} {ts : List Tn} {σ : St} {a1 a2 a3 : Nat} (τ : V → V → V → St)
    (hτ : ∀ A B C, (((wipe σ [a1, a2, a3]).set a1 (some A)).set a2 (some B)).set a3 (some C) = τ A B C) (hw : ∀ A B C, wipe (τ A B C) [a1, a2, a3] = wipe σ [a1, a2, a3])
    (l1 : ∀ A B C, (τ A B C)[a1]? = some (some A)) (l2 : ∀ A B C, (τ A B C)[a2]? = some (some B)) (l3 : ∀ A B C, (τ A B C)[a3]? = some (some C))
    (hu : TupsAt K H u (ts.map tnV)) (hn : ts.length ≤ 1000) (g2 : (ts.map fun r => r.a).Nodup)
    (k : ∀ D H' kvs, H D = none → Ex [] H H' → H' D = some (.dK kvs) → GivR K H' kvs ts → Q (.ref D) H') :
    ∃ b, V.ref u = .ref b ∧ (∃ xs, SqT K H b xs) ∧ DcW (Itt K b) (gTup K 3 (gCons (gName a1) (gCons (gName a2) (gCons (gName a3) gNil)))) tYes (tVar a1) (tTup (tCons (tVar a2) (tCons (tVar a3) tNil))) [a1, a2, a3] σ H Q := by
  obtain ⟨xs, hxs, hxl, hxp⟩ := hu
  rw [List.length_map] at hxl
  refine ⟨u, rfl, ⟨xs, hxs⟩, dc_it (walk_tup (xs := xs)) (fun D i H1 => Ex [] H H1 ∧ H D = none ∧ ∃ kvs, H1 D = some (.dK kvs) ∧ kvs.length ≤ i ∧ GivR K H1 kvs (ts.take i)) (fun D hD => ⟨Ex.new hD, hD, [], upd_same, Nat.le_refl _, by intro r hr; simp at hr, fun _ _ => rfl⟩) (fun D i H1 _ h => h.1.sqT (by simp) hxs) ?_ ?_⟩
  · rintro D i x H1 H2 hi ⟨e1, hD, kvs, h1, hl, ht, hno⟩ ⟨rfl, hx⟩
    have hit : i < ts.length := by omega
    obtain ⟨p, rfl, hp⟩ := hxp i x (tnV ts[i]) hx (by rw [List.getElem?_map, List.getElem?_eq_getElem hit]; rfl)
    refine s_gTup (e1.sqT (by simp) hp) rfl ?_
    unfold tnV
    refine s_gCons ?_
    refine s_gName ?_
    refine s_gCons ?_
    refine s_gName ?_
    refine s_gCons ?_
    refine s_gName ?_
    refine s_gNil ?_
    rw [hτ]
    refine ⟨hw _ _ _, ?_⟩
    refine s_yes ?_
    refine s_T rfl ?_
    refine s_var (l1 _ _ _) ?_
    refine s_tup ?_
    refine s_cons ?_
    refine s_var (l2 _ _ _) ?_
    refine s_cons ?_
    refine s_var (l3 _ _ _) ?_
    refine s_nil ?_
    refine s_alloc (by show 2 ≤ sizeLine; decide) fun q4 H4 n4 e4 h4 => ?_
    have hD4 : H4 D = some (.dK kvs) := e4.get0 h1
    have hni := not_mem_take g2 (i := i) (by rw [List.length_map]; exact hit)
    rw [List.getElem_map, ← List.map_take] at hni
    refine ⟨kvs, kS ts[i].a, rfl, hD4, Nat.lt_of_le_of_lt hl (Nat.lt_of_lt_of_le hit (Nat.le_trans hn (by decide))), ?_, hD, _, upd_same, ?_, ?_, ?_⟩
    · intro b o nb hb
      rw [upd_ne (ne_of_none hb hD)]
      exact e4.get0 (e1 b o nb hb)
    · have := length_putK kvs (kS ts[i].a) (.ref q4)
      omega
    · intro r hr
      rw [List.take_add_one, List.getElem?_eq_getElem hit] at hr
      rcases List.mem_append.mp hr with hr | hr
      · obtain ⟨p', z1, z2⟩ := ht r hr
        refine ⟨p', ?_, sqT_dK hD4 (e4.sqT (by simp) z2)⟩
        rw [valV_put, if_neg, z1]
        intro z
        exact hni (List.mem_map.mpr ⟨r, hr, kS_inj z⟩)
      · have hr' : r = ts[i] := by simpa using hr
        subst hr'
        refine ⟨q4, by rw [valV_put, if_pos rfl], SqT.of ?_⟩
        rw [upd_ne (fun z => by rw [z, hD4] at h4; cases h4)]
        exact h4
    · intro a ha
      rw [take1 (fun t => t.a) hit] at ha
      rw [valV_put, if_neg (fun z => ha (by rw [kS_inj z]; simp)), hno a (fun z => ha (List.mem_append_left _ z))]
  · rintro D H1 hD ⟨e1, _, kvs, h1, hl, ht⟩
    rw [hxl, List.take_length] at ht
    exact k D H1 kvs hD e1 h1 ht
theorem dc_ending {t d : Addr} {st : List (List Nat)} {ts : List Tn} {kg : List (Key × V)} {σ : St} {a1 g : Nat} (τ : V → St)
    (hτ : ∀ A, (wipe σ [a1]).set a1 (some A) = τ A) (hw : ∀ A, wipe (τ A) [a1] = wipe σ [a1])
    (l1 : ∀ A, (τ A)[a1]? = some (some A)) (l2 : ∀ A, (τ A)[g]? = some (some (.ref d))) (ht : SqT K H t (st.map vS)) (hn : st.length ≤ 1000) (g3 : st.Nodup) (hd : H d = some (.dK kg)) (hg : GivR K H kg ts) (g2 : (ts.map fun r => r.a).Nodup)
    (k : ∀ D H' kvs, H D = none → Ex [] H H' → H' D = some (.dK kvs) → (∀ a ∈ st, ∃ p, valV kvs (kS a) = some (.ref p) ∧ SqT K H' p [vS (enOf ts a).1, .int (enOf ts a).2]) → Q (.ref D) H') :
    DcW (Itt K t) (gName a1) tYes (tVar a1) (tDGet2 (tVar g) (tVar a1) (tTup (tCons (tVar a1) (tCons (tC (.int 0)) tNil)))) [a1] σ H Q := by
  refine dc_it (walk_tup (xs := st.map vS)) (fun D i H1 => Ex [] H H1 ∧ H D = none ∧ ∃ kvs, H1 D = some (.dK kvs) ∧ kvs.length ≤ i ∧ ∀ a ∈ st.take i, ∃ p, valV kvs (kS a) = some (.ref p) ∧ SqT K H1 p [vS (enOf ts a).1, .int (enOf ts a).2]) (fun D hD => ⟨Ex.new hD, hD, [], upd_same, Nat.le_refl _, by intro r hr; simp at hr⟩) (fun D i H1 _ h => h.1.sqT (by simp) ht) ?_ ?_
  · rintro D i x H1 H2 hi ⟨e1, hD, kvs, h1, hl, hh⟩ ⟨rfl, hx⟩
    rw [List.length_map] at hi
    rw [List.getElem?_map, List.getElem?_eq_getElem hi] at hx
    cases hx
    refine s_gName ?_
    rw [hτ]
    refine ⟨hw _, ?_⟩
    refine s_yes ?_
    refine s_T rfl ?_
    refine s_var (l1 _) ?_
    refine s_var (l2 _) ?_
    refine ⟨d, rfl, .inl ⟨kg, .inl (e1.get0 hd)⟩, ?_⟩
    refine s_var (l1 _) ?_
    refine s_tup ?_
    refine s_cons ?_
    refine s_var (l1 _) ?_
    refine s_cons ?_
    refine s_c ?_
    refine s_nil ?_
    refine s_alloc (by show 2 ≤ sizeLine; decide) fun q4 H4 n4 e4 h4 => ?_
    have hD4 : H4 D = some (.dK kvs) := e4.get0 h1
    refine ⟨_, DGet.k (k := kS st[i]) ((e1.trans e4).get0 hd), ?_⟩
    have fin : ∀ p, SqT K H4 p [vS (enOf ts st[i]).1, .int (enOf ts st[i]).2] → ∃ kvs k, vS st[i] = kV k ∧ H4 D = some (.dK kvs) ∧ kvs.length < sizeLine ∧ (Ex [] H (upd H4 D (.dK (putK kvs k (.ref p)))) ∧ H D = none ∧ ∃ kvs', (upd H4 D (.dK (putK kvs k (.ref p)))) D = some (.dK kvs') ∧ kvs'.length ≤ i + 1 ∧ ∀ a ∈ st.take (i + 1), ∃ p', valV kvs' (kS a) = some (.ref p') ∧ SqT K (upd H4 D (.dK (putK kvs k (.ref p)))) p' [vS (enOf ts a).1, .int (enOf ts a).2]) := by
      intro p hp
      refine ⟨kvs, kS st[i], rfl, hD4, Nat.lt_of_le_of_lt hl (Nat.lt_of_lt_of_le hi (Nat.le_trans hn (by decide))), ?_, hD, _, upd_same, ?_, ?_⟩
      · intro b o nb hb
        rw [upd_ne (ne_of_none hb hD)]
        exact e4.get0 (e1 b o nb hb)
      · have := length_putK kvs (kS st[i]) (.ref p)
        omega
      · intro a ha
        rw [List.take_add_one, List.getElem?_eq_getElem hi] at ha
        rcases List.mem_append.mp ha with ha | ha
        · obtain ⟨p', z1, z2⟩ := hh a ha
          refine ⟨p', ?_, sqT_dK hD4 (e4.sqT (by simp) z2)⟩
          rw [valV_put, if_neg, z1]
          intro z
          exact not_mem_take g3 hi (by rw [← kS_inj z]; exact ha)
        · have hr' : a = st[i] := by simpa using ha
          subst hr'
          exact ⟨p, by rw [valV_put, if_pos rfl], sqT_dK hD4 hp⟩
    by_cases hin : st[i] ∈ ts.map fun t => t.a
    · obtain ⟨r, hr, er⟩ := List.mem_map.mp hin
      obtain ⟨p, z1, z2⟩ := hg.1 r hr
      rw [← er, z1]
      have := fin p (by rw [← er, en_of g2 hr]; exact (e1.trans e4).sqT (by simp) z2)
      rw [← er] at this
      exact this
    · rw [hg.2 _ hin]
      exact fin q4 (by rw [en_no hin]; exact SqT.of h4)
  · rintro D H1 hD ⟨e1, _, kvs, h1, hl, hh⟩
    rw [List.length_map, List.take_length] at hh
    exact k D H1 kvs hD e1 h1 hh
theorem lc_fmT {b : Addr} {ls : List (List Nat)} {j : Nat} {tt : TT} {te : TE} {σ : St} (hq : SqT K H b (ls.map vS)) (hn : ls.length ≤ 100000) (pr : List Nat → Bool) (val : List Nat → V)
    (h : ∀ (x : List Nat) (H1 : Hp) (C1 : VK) (C0 : Hp → Prop), x ∈ ls → Ex [] H H1 → (∀ H2, Ex [] H1 H2 → pr x = true → C1 (val x) H2) → (∀ H2, Ex [] H1 H2 → pr x = false → C0 H2) →
      tt ((wipe σ [j]).set j (some (vS x))) H1 fun b H2 => if b = true then te ((wipe σ [j]).set j (some (vS x))) H2 C1 else C0 H2)
    (k : ∀ D H', H D = none → Ex [] H H' → H' D = some (.lst ((ls.filter pr).map val)) → Q (.ref D) H') : LcW (Itt K b) (gName j) tt te [j] σ H Q := by
  refine lc_run (walk_tup (xs := ls.map vS)) (by rw [List.length_map]; exact hn) [] (fun _ => True) (fun i acc _ => acc = ((ls.take i).filter pr).map val) (by simp) trivial (by simp) (fun _ _ _ _ _ => trivial) (fun _ _ _ _ _ _ h => h) (fun H1 e => e.sqT (by simp) hq) ?_ ?_
  · rintro i acc x H1 H2 C1 C0 hi e _ rfl ⟨rfl, hx⟩ k1 k0
    rw [List.length_map] at hi
    rw [List.getElem?_map, List.getElem?_eq_getElem hi] at hx
    cases hx
    refine ⟨wipe1 _ _ _, ?_⟩
    refine h ls[i] _ C1 C0 (List.getElem_mem hi) e (fun H5 e5 hp => k1 _ H5 e5 trivial ?_) (fun H5 e5 hp => k0 H5 e5 trivial ?_)
    · rw [List.take_add_one, List.getElem?_eq_getElem hi, List.filter_append, List.map_append]
      simp [hp]
    · rw [List.take_add_one, List.getElem?_eq_getElem hi, List.filter_append, List.map_append]
      simp [hp]
  · rintro D H' ys hD e _ hd _ rfl
    rw [List.length_map, List.take_length] at hd
    exact k D H' hD e hd
theorem pure_Loop_init (F : LoopK K) (h : sp_Loop_init K vs H Q E) : t_Loop_init K (E1 Q) (start ["self", "signs", "states", "rows", "turns", "yes", "state", "sign", "later", "amount", "given"] vs) H := by
  obtain ⟨x, s, t, u, v, w, dx, rfl, hx, st, rs, ts, ys, hs, ht, hst, hu, hrs, hv, hts, hw, hys, k⟩ := h
  have h4 := hs.2.1
  show t_Loop_init K (E1 Q) [some (.ref x), some (vS s), some (.ref t), some (.ref u), some (.ref v), some (.ref w), none, none, none, none, none] H
  unfold t_Loop_init
  walk_at "go"
  refine u_check_signs hs fun H1 e1 => ?_
  walk_at "go"
  refine u_check_states (e1.sqT (by simp) ht) hst fun H2 e2 => ?_
  have e02 := e1.trans e2
  walk_at "go"
  refine u_check_rows hs (e02.sqT (by simp) ht) hst (hu.ex0 e02) hrs fun H3 e3 => ?_
  have e03 := e02.trans e3
  walk_at "go"
  refine u_check_turns (e03.sqT (by simp) ht) hst (hv.ex0 e03) hts fun H4 e4 => ?_
  have e04 := e03.trans e4
  walk_at "go"
  refine u_check_yes (e04.sqT (by simp) ht) (e04.sqT (by simp) hw) hys fun H5 e5 => ?_
  have e05 := e04.trans e5
  clear e1 e2 e3 e4 e5 e02 e03 e04
  walk_at "go"
  refine s_srtS (by omega) fun p2 H6 n6 e6 h6 => ?_
  have e06 := e05.trans e6
  clear e05 e6
  walk_at "go"
  refine s_join0 (ls := srt (s.map fun c => [c])) (SqL.of h6) (by rw [flat_len1]; omega) ?_
  walk_at "go"
  refine s_setF (e06.get0 hx) F.cl F.n1 (by simp) fun H7 e7 h7 => ?_
  have e07 : Ex [x] H H7 := e06.wide.trans e7
  have ht7 := sqT_ins (e06.get0 hx) e7 (e06.sqT (by simp) ht)
  have hw7 := sqT_ins (e06.get0 hx) e7 (e06.sqT (by simp) hw)
  have hu7 := (hu.ex0 e06).exI (e06.get0 hx) e7
  have hv7 := (hv.ex0 e06).exI (e06.get0 hx) e7
  clear e7 h6
  walk_at "go"
  refine s_setF h7 F.cl F.n2 (show (1 : Nat) < 30 by decide) fun H8 e8 h8 => ?_
  have e08 : Ex [x] H H8 := e07.trans e8
  have ht8 := sqT_ins h7 e8 ht7
  have hw8 := sqT_ins h7 e8 hw7
  have hu8 := hu7.exI h7 e8
  have hv8 := hv7.exI h7 e8
  clear e8 e07 h7 ht7 hw7 hu7 hv7
  have hrl : rs.length ≤ 24 := by rw [hrs.2.2]; exact Nat.mul_le_mul h4 hst.2.1
  have htl : ts.length ≤ 6 := by
    have := nodup_le _ st hts.2 fun a ha => by obtain ⟨t, h1, rfl⟩ := List.mem_map.mp ha; exact (hts.1 t h1).1
    rw [List.length_map] at this
    exact Nat.le_trans this hst.2.1
  walk_at "go"
  refine dc_table (fun A B C D => [some (.ref x), some (vS s), some (.ref t), some (.ref u), some (.ref v), some (.ref w), some A, some B, some C, some D, none]) (fun _ _ _ _ => rfl) (fun _ _ _ _ => rfl) (fun _ _ _ _ => rfl) (fun _ _ _ _ => rfl) (fun _ _ _ _ => rfl) (fun _ _ _ _ => rfl) hu8 (by omega) hrs.2.1 fun tt H9 kt n9 e9 h9 hT => ?_
  walk_at "go"
  have hx9 := e9.get0 h8
  refine s_setF hx9 F.cl F.n3 (show (2 : Nat) < 30 by decide) fun H10 e10 h10 => ?_
  have e010 : Ex [x] H H10 := (e08.trans e9.wide).trans e10
  have ht10 := sqT_ins hx9 e10 (e9.sqT (by simp) ht8)
  have hw10 := sqT_ins hx9 e10 (e9.sqT (by simp) hw8)
  have hv10 := (hv8.ex0 e9).exI hx9 e10
  have htt10 : H10 tt = some (.dT kt) := e10.get (by simp only [List.mem_singleton]; intro z; rw [z, hx9] at h9; cases h9) h9
  have hT10 : TabR K H10 kt rs := fun r hr => by
    obtain ⟨p, z1, z2⟩ := hT r hr
    exact ⟨p, z1, sqT_ins hx9 e10 z2⟩
  clear e10 e9 e08 hx9 h9 hT ht8 hw8 hu8 hv8
  walk_at "go"
  refine dc_given (fun A B C => [some (.ref x), some (vS s), some (.ref t), some (.ref u), some (.ref v), some (.ref w), some A, none, some B, some C, none]) (fun _ _ _ => rfl) (fun _ _ _ => rfl) (fun _ _ _ => rfl) (fun _ _ _ => rfl) (fun _ _ _ => rfl) hv10 (by omega) hts.2 fun d H11 kg n11 e11 h11 hG => ?_
  walk_at "go"
  refine dc_ending (d := d) (g := 10) (a1 := 6) (fun A => [some (.ref x), some (vS s), some (.ref t), some (.ref u), some (.ref v), some (.ref w), some A, none, none, none, some (.ref d)]) (fun _ => rfl) (fun _ => rfl) (fun _ => rfl) (fun _ => rfl) (e11.sqT (by simp) ht10) (by have := hst.2.1; omega) hst.2.2.1 h11 hG hts.2 fun te H12 ke n12 e12 h12 hE => ?_
  walk_at "go"
  have e1012 := e11.trans e12
  have hx12 := e1012.get0 h10
  refine s_setF hx12 F.cl F.n4 (show (3 : Nat) < 30 by decide) fun H13 e13 h13 => ?_
  have e013 : Ex [x] H H13 := (e010.trans e1012.wide).trans e13
  have ht13 := sqT_ins hx12 e13 (e1012.sqT (by simp) ht10)
  have hw13 := sqT_ins hx12 e13 (e1012.sqT (by simp) hw10)
  have htt13 : H13 tt = some (.dT kt) := e13.get (by simp only [List.mem_singleton]; intro z; rw [z] at htt10; rw [htt10] at h10; cases h10) (e1012.get0 htt10)
  have hte13 : H13 te = some (.dK ke) := e13.get (by simp only [List.mem_singleton]; intro z; rw [z, hx12] at h12; cases h12) h12
  walk_at "go"
  refine lc_fmT (ls := st) ht13 (by have := hst.2.1; omega) (fun a => decide (a ∈ ys)) vS (fun a G C1 C0 ha eg k1 k0 => ?_) (fun D G hD eg hd => ?_)
  · walk_at "go"
    refine s_inT (eg.sqT (by simp) hw13) ?_
    walk_at "go"
    refine s_2 (fun h => ?_) fun h => k0 _ Ex.rfl h
    walk_at "go"
    exact k1 _ Ex.rfl h
  walk_at "go"
  refine s_tupOf (SqL.of hd) fun tm G2 n14 e14 h14 => ?_
  walk_at "go"
  have hx14 := e14.get0 (eg.get0 h13)
  refine s_setF hx14 F.cl F.n5 (show (4 : Nat) < 30 by decide) fun G3 e15 h15 => ?_
  have e1315 := eg.trans e14
  refine k _ ((e013.trans e1315.wide).trans e15) ⟨dx, t, tt, te, tm, kt, ke, h15, sqT_ins hx14 e15 (e1315.sqT (by simp) ht13), ?_, ?_, ?_, ?_, sqT_ins hx14 e15 (SqT.of h14)⟩
  · exact e15.get (by simp only [List.mem_singleton]; intro z; rw [z] at htt13; rw [htt13] at h13; cases h13) (e1315.get0 htt13)
  · intro a ha c hc
    obtain ⟨r, hr, rfl, rfl⟩ := tab_all hrs ha ((sgn_perm s).mem_iff.mp hc)
    obtain ⟨p, z1, z2⟩ := hT10 r hr
    refine ⟨p, z1, ?_⟩
    show SqT K G3 p [vS (tbOf rs r.a r.c).1, .int (tbOf rs r.a r.c).2]
    rw [tb_of hrs.2.1 hr]
    exact sqT_ins hx14 e15 (e1315.sqT (by simp) (sqT_ins hx12 e13 (e1012.sqT (by simp) z2)))
  · exact e15.get (by simp only [List.mem_singleton]; intro z; rw [z] at hte13; rw [hte13] at h13; cases h13) (e1315.get0 hte13)
  · intro a ha
    obtain ⟨p, z1, z2⟩ := hE a ha
    exact ⟨p, z1, sqT_ins hx14 e15 (e1315.sqT (by simp) (sqT_ins hx12 e13 z2))⟩
end
end WB
namespace WB
open PySem PySem.Spec PyProof.Rows L2
def stp (M : LM) (z : List Nat × Int) (c : Nat) : List Nat × Int := ((M.tb z.1 c).1, z.2 + (M.tb z.1 c).2)
def run (M : LM) (a : List Nat) (w : List Nat) : List Nat × Int := w.foldl (stp M) (a, 0)
end WB
namespace WB
open PySem PySem.Spec PyProof.Rows L2
section
variable {K : PySem.W.Frag} {vs : List V} {H H' : Hp} {Q : VK} {E : XK} {x : Addr} {M : LM}
theorem s_dget {td ty : TE} {σ : St} (k : td σ H fun x H1 => ty σ H1 fun y H2 => ∃ a v, x = .ref a ∧ DGet H2 a y (some v) ∧ Q v H2) : tDGet td ty σ H Q := k
theorem s_getT {C : V → Prop} {tt q : Addr} {kt : List (List Key × V)} {a : List Nat} {c : Nat} (h1 : H tt = some (.dT kt)) (h2 : TabOk K H kt M) (ha : a ∈ M.st) (hc : c ∈ M.ab) (hq : H q = some (.tup [vS a, vS [c]])) (k : ∀ p, SqT K H p [vS (M.tb a c).1, .int (M.tb a c).2] → C (.ref p)) : ∃ b v, V.ref tt = .ref b ∧ DGet H b (.ref q) (some v) ∧ C v := by
  obtain ⟨p, z1, z2⟩ := h2 a ha c hc
  exact ⟨tt, .ref p, rfl, by rw [← z1]; exact DGet.t h1 (k := [kS a, kS [c]]) hq, k p z2⟩
theorem s_getE {C : V → Prop} {te : Addr} {ke : List (Key × V)} {a : List Nat} (h1 : H te = some (.dK ke)) (h2 : EndOk K H ke M) (ha : a ∈ M.st) (k : ∀ p, SqT K H p [vS (M.en a).1, .int (M.en a).2] → C (.ref p)) : ∃ b v, V.ref te = .ref b ∧ DGet H b (vS a) (some v) ∧ C v := by
  obtain ⟨p, z1, z2⟩ := h2 a ha
  exact ⟨te, .ref p, rfl, by rw [← z1]; exact DGet.k h1 (k := kS a), k p z2⟩
end
end WB
namespace WB
open PySem PySem.Spec PyProof.Rows L2
def BndM (M : LM) : Prop := (∀ a ∈ M.st, ∀ c ∈ M.ab, (M.tb a c).2.natAbs ≤ 2 ^ 200) ∧ ∀ a ∈ M.st, (M.en a).2.natAbs ≤ 2 ^ 200
end WB
namespace WB
open PySem PySem.Spec PyProof.Rows L2
def Tups (K : PySem.W.Frag) (H : Hp) (xs : List V) (ls : List (List V)) : Prop := xs.length = ls.length ∧ ∀ (i : Nat) x l, xs[i]? = some x → ls[i]? = some l → ∃ p, x = .ref p ∧ SqT K H p l
section
variable {K : PySem.W.Frag} {H H' : Hp} {Q : VK} {E : XK} {t a x : Addr} {M : LM} {xs : List V} {ls : List (List V)}
theorem TupsAt.mk (h : SqT K H t xs) (h2 : Tups K H xs ls) : TupsAt K H t ls := ⟨xs, h, h2.1, h2.2⟩
theorem Tups.ex0 (e : Ex [] H H') (h : Tups K H xs ls) : Tups K H' xs ls := ⟨h.1, fun i x l h1 h2 => by
  obtain ⟨p, h3, h4⟩ := h.2 i x l h1 h2
  exact ⟨p, h3, e.sqT (by simp) h4⟩⟩
theorem Tups.nil : Tups K H [] [] := ⟨rfl, by simp⟩
theorem Tups.snoc {p : Addr} {l : List V} (h : Tups K H xs ls) (hp : SqT K H p l) : Tups K H (xs ++ [.ref p]) (ls ++ [l]) := by
  refine ⟨by simp [h.1], fun i x m h1 h2 => ?_⟩
  by_cases hi : i < xs.length
  · rw [List.getElem?_append_left hi] at h1
    rw [List.getElem?_append_left (by rw [← h.1]; exact hi)] at h2
    exact h.2 i x m h1 h2
  · rw [List.getElem?_append_right (by omega)] at h1
    rw [List.getElem?_append_right (by rw [← h.1]; omega)] at h2
    have : i = xs.length := by
      have := (List.getElem?_eq_some_iff.mp h1).1
      simp at this
      omega
    subst this
    rw [Nat.sub_self] at h1
    rw [h.1, Nat.sub_self] at h2
    simp at h1 h2
    subst h1 h2
    exact ⟨p, rfl, hp⟩
theorem Tups.app {ys : List V} {ms : List (List V)} (h : Tups K H xs ls) (h' : Tups K H ys ms) : Tups K H (xs ++ ys) (ls ++ ms) := by
  refine ⟨by simp [h.1, h'.1], fun i x m h1 h2 => ?_⟩
  by_cases hi : i < xs.length
  · rw [List.getElem?_append_left hi] at h1
    rw [List.getElem?_append_left (by rw [← h.1]; exact hi)] at h2
    exact h.2 i x m h1 h2
  · rw [List.getElem?_append_right (by omega)] at h1
    rw [List.getElem?_append_right (by rw [← h.1]; omega), ← h.1] at h2
    exact h'.2 _ x m h1 h2
theorem sqT_upd {D : Addr} {o ys : List V} (hd : H D = none ∨ ∃ l, H D = some (.lst l)) (h : SqT K H t ys) : SqT K (upd H D (.lst o)) t ys := by
  rcases hd with hd | ⟨l, hd⟩
  · exact (Ex.new (m := []) hd).sqT (by simp) h
  · exact sqT_lst hd (Ex.put (by simp)) h
theorem Tups.upd {D : Addr} {o : List V} (hd : H D = none ∨ ∃ l, H D = some (.lst l)) (h : Tups K H xs ls) : Tups K (L2.upd H D (.lst o)) xs ls := ⟨h.1, fun i x l h1 h2 => by
  obtain ⟨p, h3, h4⟩ := h.2 i x l h1 h2
  exact ⟨p, h3, sqT_upd hd h4⟩⟩
theorem lc_tups {α : Type} {J : It} {G : Hp → Prop} {Y : Nat → Hp → V → Hp → Prop} {j n : Nat} {te : TE} {σ : St} {l : List α} (w : Walk J n G Y) (hl : l.length = n) (hn : n ≤ 100000) (vl : α → V) (f : α → List V) (hY : ∀ i H1 x H2, i < n → Y i H1 x H2 → H2 = H1 ∧ ∃ a, l[i]? = some a ∧ x = vl a) (hG : ∀ H1, Ex [] H H1 → G H1)
    (h : ∀ a H1 (C : VK), a ∈ l → Ex [] H H1 → (∀ p H2, Ex [] H1 H2 → SqT K H2 p (f a) → C (.ref p) H2) → te ((wipe σ [j]).set j (some (vl a))) H1 C)
    (k : ∀ D H' xs, H D = none → Ex [] H H' → H' D = some (.lst xs) → Tups K H' xs (l.map f) → Q (.ref D) H') : LcW J (gName j) tYes te [j] σ H Q := by
  refine lc_run w hn [] (fun _ => True) (fun i acc H1 => Tups K H1 acc ((l.take i).map f)) (by simp) trivial (by simpa using Tups.nil) (fun _ _ _ _ _ => trivial) (fun _ _ _ _ _ hd h => h.upd hd) hG ?_ ?_
  · intro i acc x H1 H2 C1 C0 hi e _ ha hy k1 k0
    obtain ⟨rfl, a, hx, rfl⟩ := hY i H1 x H2 hi hy
    refine ⟨wipe1 _ _ _, s_yes (s_T rfl ?_)⟩
    refine h a _ C1 (List.mem_of_getElem? hx) e fun p H5 e5 hp => k1 _ H5 e5 trivial ?_
    rw [List.take_add_one, hx, List.map_append]
    exact (ha.ex0 e5).snoc hp
  · intro D H' ys hD e _ hd _ ha
    rw [← hl, List.take_length] at ha
    exact k D H' ys hD e hd ha
theorem lc_tupsL {b : Addr} {l : List (List Nat)} {j : Nat} {te : TE} {σ : St} (hq : SqL K H b (l.map vS)) (hn : l.length ≤ 100000) (f : List Nat → List V)
    (h : ∀ a H1 (C : VK), a ∈ l → Ex [] H H1 → (∀ p H2, Ex [] H1 H2 → SqT K H2 p (f a) → C (.ref p) H2) → te ((wipe σ [j]).set j (some (vS a))) H1 C)
    (k : ∀ D H' xs, H D = none → Ex [] H H' → H' D = some (.lst xs) → Tups K H' xs (l.map f) → Q (.ref D) H') : LcW (Itl K b) (gName j) tYes te [j] σ H Q :=
  lc_tups (l := l) (walk_list (xs := l.map vS)) (by simp) (by simpa using hn) vS f (fun i H1 x H2 hi hy => ⟨hy.1, by
    have h2 := hy.2
    rw [List.getElem?_map] at h2
    obtain ⟨a, h3, h4⟩ := Option.map_eq_some_iff.mp h2
    exact ⟨a, h3, h4.symm⟩⟩) (fun H1 e => e.sqL (by simp) hq) h k
theorem lc_tupsS {l : List Nat} {j : Nat} {te : TE} {σ : St} (hn : l.length ≤ 100000) (f : Nat → List V)
    (h : ∀ c H1 (C : VK), c ∈ l → Ex [] H H1 → (∀ p H2, Ex [] H1 H2 → SqT K H2 p (f c) → C (.ref p) H2) → te ((wipe σ [j]).set j (some (vS [c]))) H1 C)
    (k : ∀ D H' xs, H D = none → Ex [] H H' → H' D = some (.lst xs) → Tups K H' xs (l.map f) → Q (.ref D) H') : LcW (Its (S l)) (gName j) tYes te [j] σ H Q :=
  lc_tups (l := l) (walk_str (z := S l)) (by simp [S]) (by simpa [S] using hn) (fun c => vS [c]) f (fun i H1 x H2 hi hy => ⟨hy.1, by
    obtain ⟨c, h2, h3⟩ := hy.2
    exact ⟨c, by simpa [S] using h2, h3⟩⟩) (fun _ _ => trivial) h k
theorem s_catA {b : Addr} {ys : List V} (h1 : SqT K H a xs) (h2 : SqT K H b ys) (hl : xs.length + ys.length ≤ 1000) (hx : xs ≠ []) (hy : ys ≠ []) (k : ∀ p H2, H p = none → Ex [] H H2 → H2 p = some (.tup (xs ++ ys)) → Q (.ref p) H2) : rCatA K (.ref a) (.ref b) H Q :=
  ⟨a, b, xs, ys, rfl, rfl, h1, h2, Nat.le_trans hl (by decide), fun e => absurd e hx, fun _ e => absurd e hy, fun _ _ => s_new k⟩
def rwsOf (M : LM) : List Rw := M.st.flatMap fun a => M.ab.map fun c => ⟨a, c, (M.tb a c).1, (M.tb a c).2⟩
def tnsOf (M : LM) : List Tn := M.st.map fun a => ⟨a, (M.en a).1, (M.en a).2⟩
def LRowAt (K : PySem.W.Frag) (H : Hp) (p : Addr) (M : LM) : Prop := ∃ o r t y, SqT K H p [vS M.ab, .ref o, .ref r, .ref t, .ref y] ∧ SqT K H o (M.st.map vS) ∧ TupsAt K H r ((rwsOf M).map rwV) ∧ TupsAt K H t ((tnsOf M).map tnV) ∧ SqT K H y (M.ok.map vS)
theorem LRowAt.ex0 {p : Addr} (e : Ex [] H H') (h : LRowAt K H p M) : LRowAt K H' p M := by
  obtain ⟨o, r, t, y, h1, h2, h3, h4, h5⟩ := h
  exact ⟨o, r, t, y, e.sqT (by simp) h1, e.sqT (by simp) h2, h3.ex0 e, h4.ex0 e, e.sqT (by simp) h5⟩
end
end WB
namespace WB
open PySem PySem.Spec PyProof.Rows L2
section
variable {K : PySem.W.Frag} {vs : List V} {H H' : Hp} {Q : VK} {E : XK} {x : Addr} {M : LM}
theorem cutV_from {xs : List V} {n : Int} (h0 : 0 ≤ n) : cutV xs (some n) none = xs.drop n.toNat := by
  unfold cutV
  have e : HT.sIx xs.length 0 (some n) = min n.toNat xs.length := by
    show (if n < 0 then (n + (xs.length : Int)).toNat else min n.toNat xs.length) = _
    rw [if_neg (by omega)]
  have e2 : HT.sIx xs.length xs.length none = xs.length := rfl
  rw [e, e2]
  rcases Nat.le_total n.toNat xs.length with h | h
  · rw [Nat.min_eq_left h, List.take_of_length_le (by simp)]
  · rw [Nat.min_eq_right h]
    simp [List.drop_eq_nil_of_le h]
end
end WB
namespace WB
open PySem PySem.Spec PyProof.Rows L2
theorem lit_z : ("z" : Str) = S [122] := by decide +kernel
theorem s_cutS {t : TS} {n b c : St → Hp → Prop} {rt : VK} {σ : St} {H : Hp} (P : St → Hp → Prop) (h1 : ∀ n' : St → Hp → Prop, (∀ σ G, P σ G → n' σ G) → t ⟨n', rt, b, c⟩ σ H) (h2 : ∀ σ G, P σ G → n σ G) : t ⟨n, rt, b, c⟩ σ H := h1 n h2
theorem Ex.dropN {H H1 H2 : Hp} {p : Addr} {m : List Addr} (hp : H p = none) (a : Ex m H H1) (b : Ex [p] H1 H2) : Ex m H H2 := fun x o hx h => b x o (by simpa using ne_of_none h hp) (a x o hx h)
structure GM (M : LM) : Prop where
  g : GoodM M
  b : BndM M
  f : M.st.filter (fun a => decide (a ∈ M.ok)) = M.ok
def MAt (K : PySem.W.Frag) (H : Hp) (q : Addr) (M : LM) : Prop := ∃ po ss es oo kt ke, H q = some (.lst [vS M.ab, .ref po, .ref ss, .ref es, .ref oo]) ∧ H po = some (.lst (M.st.map vS)) ∧ H ss = some (.dT kt) ∧ TabOk K H kt M ∧ H es = some (.dK ke) ∧ EndOk K H ke M ∧ H oo = some (.lst (M.ok.map vS))
def srtM (M : LM) : LM := { M with ab := sgn M.ab }
section
variable {K : PySem.W.Frag} {H H' : Hp} {Q : VK} {E : XK} {a q x : Addr} {M : LM}
theorem MAt.ex0 (e : Ex [] H H') (h : MAt K H q M) : MAt K H' q M := by
  obtain ⟨po, ss, es, oo, kt, ke, h1, h2, h3, h4, h5, h6, h7⟩ := h
  exact ⟨po, ss, es, oo, kt, ke, e.get0 h1, e.get0 h2, e.get0 h3, h4.ex0 e, e.get0 h5, h6.ex0 e, e.get0 h7⟩
theorem strs_ne {ls : List (List Nat)} {x y z : Int} (h : ls.map vS = [.int x, .int y, .int z]) : False := by
  match ls, h with
  | a :: l, h => cases (List.cons.inj h).1
theorem MAt.exP (hp : PoolAt H a) (e : Ex [a] H H') (h : MAt K H q M) : MAt K H' q M := by
  obtain ⟨po, ss, es, oo, kt, ke, h1, h2, h3, h4, h5, h6, h7⟩ := h
  have hq := hp
  obtain ⟨y1, y2, y3, hq⟩ := hq
  refine ⟨po, ss, es, oo, kt, ke, e.get ?_ h1, e.get ?_ h2, e.get ?_ h3, h4.exP hp e, e.get ?_ h5, h6.exP hp e, e.get ?_ h7⟩
  · simp only [List.mem_singleton]; intro w; rw [w, hq] at h1; cases h1
  · simp only [List.mem_singleton]; intro w; rw [w, hq] at h2; exact strs_ne (HO.lst.inj (Option.some.inj h2)).symm
  · simp only [List.mem_singleton]; intro w; rw [w, hq] at h3; cases h3
  · simp only [List.mem_singleton]; intro w; rw [w, hq] at h5; cases h5
  · simp only [List.mem_singleton]; intro w; rw [w, hq] at h7; exact strs_ne (HO.lst.inj (Option.some.inj h7)).symm
theorem goodS_sgn {s : List Nat} (h : goodS s) : goodS (sgn s) := goodS_perm h (sgn_perm s)
theorem good_srt (g : GoodM M) : GoodM (srtM M) := ⟨goodS_sgn g.ab, g.st, fun a ha c hc => g.tb a ha c ((sgn_perm M.ab).mem_iff.mp hc), g.en, g.ok⟩
theorem pairs_nodup {ab : List Nat} (ha : ab.Nodup) : ∀ {st : List (List Nat)}, st.Nodup → (st.flatMap fun a => ab.map fun c => (a, c)).Nodup
  | [], _ => by simp
  | a :: st, h => by
    obtain ⟨h1, h2⟩ := List.nodup_cons.mp h
    rw [List.flatMap_cons]
    refine List.nodup_append.mpr ⟨?_, pairs_nodup ha h2, ?_⟩
    · exact List.pairwise_map.mpr (ha.imp fun z w => z (Prod.mk.inj w).2)
    · intro p hp q hq e
      obtain ⟨c, _, rfl⟩ := List.mem_map.mp hp
      obtain ⟨b, hb, hq⟩ := List.mem_flatMap.mp hq
      obtain ⟨d, _, rfl⟩ := List.mem_map.mp hq
      cases e
      exact h1 hb
theorem rws_len (M : LM) : ∀ st : List (List Nat), (st.flatMap fun a => M.ab.map fun c => (⟨a, c, (M.tb a c).1, (M.tb a c).2⟩ : Rw)).length = M.ab.length * st.length
  | [] => by simp
  | a :: st => by rw [List.flatMap_cons, List.length_append, rws_len M st, List.length_map, List.length_cons, Nat.mul_succ, Nat.add_comm]
theorem mem_rws {r : Rw} (h : r ∈ rwsOf M) : r.a ∈ M.st ∧ r.c ∈ M.ab ∧ M.tb r.a r.c = (r.b, r.n) := by
  obtain ⟨a, ha, h⟩ := List.mem_flatMap.mp h
  obtain ⟨c, hc, rfl⟩ := List.mem_map.mp h
  exact ⟨ha, hc, rfl⟩
theorem good_rws (g : GoodM M) : goodRws M.ab M.st (rwsOf M) := by
  refine ⟨fun r hr => ?_, ?_, rws_len M M.st⟩
  · obtain ⟨h1, h2, h3⟩ := mem_rws hr
    have := g.tb _ h1 _ h2
    rw [h3] at this
    exact ⟨h1, h2, this⟩
  · have := pairs_nodup g.ab.2.2 g.st.2.2.1
    have e : (rwsOf M).map (fun r => (r.a, r.c)) = M.st.flatMap fun a => M.ab.map fun c => (a, c) := by
      unfold rwsOf
      rw [List.map_flatMap]
      congr 1
      funext a
      rw [List.map_map]
      rfl
    rw [e]
    exact this
theorem good_tns (g : GoodM M) : goodTns M.st (tnsOf M) := by
  refine ⟨fun t ht => ?_, ?_⟩
  · obtain ⟨a, ha, rfl⟩ := List.mem_map.mp ht
    exact ⟨ha, g.en a ha⟩
  · unfold tnsOf
    rw [List.map_map]
    have : ((fun t : Tn => t.a) ∘ fun a => (⟨a, (M.en a).1, (M.en a).2⟩ : Tn)) = id := rfl
    rw [this, List.map_id]
    exact g.st.2.2.1
def sp_law_name (K : PySem.W.Frag) : Sp := fun vs H Q _ => ∃ (a f : Addr), vs = [.ref a, .ref f] ∧ ∃ ns : List (List Nat), f ≠ a ∧ H f = some (.lst (ns.map vS)) ∧ (∀ n ∈ ns, isName n) ∧ ns.length ≤ 6 ∧ PoolAt H a ∧ ∀ (n : List Nat) (H' : Hp), isName n → n ∉ ns → Ex [a] H H' → PoolAt H' a → Q (vS n) H'
def sp_law_names (K : PySem.W.Frag) : Sp := fun vs H Q _ => ∃ (a : Addr) (m : Int), vs = [.ref a, .int m] ∧ 1 ≤ m ∧ m ≤ 6 ∧ PoolAt H a ∧ ∀ (st : List (List Nat)) (p : Addr) (H' : Hp), goodSt st → (st.length : Int) = m → H p = none → Ex [a] H H' → PoolAt H' a → H' p = some (.lst (st.map vS)) → Q (.ref p) H'
def sp_law_amount (K : PySem.W.Frag) : Sp := fun vs H Q _ => ∃ (a : Addr) (g : Bool), vs = [.ref a, .bl g] ∧ PoolAt H a ∧ ∀ (r : Int) (H' : Hp), r.natAbs ≤ 2 ^ 200 → Ex [a] H H' → PoolAt H' a → Q (.int r) H'
def sp_law_model (K : PySem.W.Frag) : Sp := fun vs H Q _ => ∃ (a : Addr) (s : List Nat) (m : Int) (g : Bool), vs = [.ref a, vS s, .int m, .bl g] ∧ goodS s ∧ 1 ≤ m ∧ m ≤ 6 ∧ PoolAt H a ∧ ∀ (q : Addr) (M : LM) (H' : Hp), GM M → M.ab = s → (M.st.length : Int) ≤ m → H q = none → Ex [a] H H' → PoolAt H' a → MAt K H' q M → Q (.ref q) H'
theorem u_name {f : Addr} {ns : List (List Nat)} (hne : f ≠ a) (hf : H f = some (.lst (ns.map vS))) (hn : ∀ n ∈ ns, isName n) (hl : ns.length ≤ 6) (hp : PoolAt H a) (k : ∀ (n : List Nat) (H' : Hp), isName n → n ∉ ns → Ex [a] H H' → PoolAt H' a → Q (vS n) H') : sp_law_name K ([.ref a, .ref f] ++ []) H Q E := ⟨a, f, rfl, ns, hne, hf, hn, hl, hp, k⟩
theorem u_names {m : Int} (h1 : 1 ≤ m) (h6 : m ≤ 6) (hp : PoolAt H a) (k : ∀ (st : List (List Nat)) (p : Addr) (H' : Hp), goodSt st → (st.length : Int) = m → H p = none → Ex [a] H H' → PoolAt H' a → H' p = some (.lst (st.map vS)) → Q (.ref p) H') : sp_law_names K ([.ref a, .int m] ++ []) H Q E := ⟨a, m, rfl, h1, h6, hp, k⟩
theorem u_amount {g : Bool} (hp : PoolAt H a) (k : ∀ (r : Int) (H' : Hp), r.natAbs ≤ 2 ^ 200 → Ex [a] H H' → PoolAt H' a → Q (.int r) H') : sp_law_amount K ([.ref a, .bl g] ++ []) H Q E := ⟨a, g, rfl, hp, k⟩
theorem u_model {s : List Nat} {m : Int} {g : Bool} (hs : goodS s) (h1 : 1 ≤ m) (h6 : m ≤ 6) (hp : PoolAt H a) (k : ∀ (q : Addr) (M : LM) (H' : Hp), GM M → M.ab = s → (M.st.length : Int) ≤ m → H q = none → Ex [a] H H' → PoolAt H' a → MAt K H' q M → Q (.ref q) H') : sp_law_model K ([.ref a, vS s, .int m, .bl g] ++ []) H Q E := ⟨a, s, m, g, rfl, hs, h1, h6, hp, k⟩
theorem sqT_non {p : Addr} {o : HO} {xs : List V} {t : Addr} (hp : H p = some o) (h1 : ∀ ys, o ≠ .tup ys) (h2 : ∀ b ys, o ≠ .frz b (.tup ys)) (e : Ex [p] H H') (h : SqT K H t xs) : SqT K H' t xs := by
  rcases h with (h | ⟨b, h⟩) | h
  · exact e.sqT (by simp only [List.mem_singleton]; intro w; rw [w, hp] at h; exact h1 _ (Option.some.inj h)) (.inl (.inl h))
  · exact e.sqT (by simp only [List.mem_singleton]; intro w; rw [w, hp] at h; exact h2 _ _ (Option.some.inj h)) (.inl (.inr ⟨b, h⟩))
  · exact .inr h
end
end WB
namespace WB
open PySem PySem.Spec PyProof.Rows L2
theorem lit_122 : ("z" : Str) = S [122] := by decide +kernel
local macro_rules | `(tactic| walk_at "lit") => `(tactic| first | exact lit_122)
local macro_rules | `(tactic| walk_at "lit") => `(tactic| first | exact lit_abc | exact lit_empty)
local macro_rules | `(tactic| walk_at "nm") => `(tactic| focus first | exact List.not_mem_nil | (simp only [List.mem_singleton]; first | assumption | (exact Ne.symm (by assumption)) | (intro hz; subst hz; simp_all; done)))
local macro_rules | `(tactic| walk_at "hp") => `(tactic| first | assumption | (apply Ex.get0 (by assumption); walk_at "hp") | (apply Ex.get (by assumption); (walk_at "nm"); (walk_at "hp")))
local macro_rules | `(tactic| walk_at "sq") => `(tactic| first | assumption | (apply SqL.of; walk_at "hp") | (apply Ex.sqL (by assumption); (walk_at "nm"); (walk_at "sq")))
local macro_rules | `(tactic| walk_at "sqt") => `(tactic| first | assumption | (apply SqT.of; walk_at "hp") | (apply Ex.sqT (by assumption); (walk_at "nm"); (walk_at "sqt")))
local macro_rules | `(tactic| walk_at "sz") => `(tactic| focus ((with_reducible refine Nat.le_trans (m := 100000) ?_ (by decide)); first | omega | (simp; done) | (simp; omega)))
local macro_rules | `(tactic| walk_at "mul") => `(tactic| first | exact Or.inr ⟨by omega, by omega⟩ | exact Or.inl ⟨by omega, by omega⟩)
local macro_rules | `(tactic| walk_at "pool") => `(tactic| first | assumption | (apply PoolAt.ex (by assumption); (walk_at "nm"); (walk_at "pool")))
local macro_rules | `(tactic| walk_at "ring") => `(tactic| first | assumption | (apply RingAt.ex (by assumption); (walk_at "nm"); (walk_at "ring")))
local macro_rules | `(tactic| walk_at "st") => `(tactic| first
  | with_reducible refine s_seq ?_
  | with_reducible refine s_asg ?_
  | with_reducible refine s_gName ?_
  | with_reducible refine s_ret ?_
  | with_reducible refine s_ifS ?_
  | with_reducible refine s_next ?_
  | with_reducible refine s_op ?_
  | ((with_reducible apply s_var); exact rfl)
  | ((with_reducible apply s_cS); (walk_at "lit"))
  | with_reducible refine s_c ?_
  | with_reducible refine s_cb ?_
  | with_reducible refine s_cons ?_
  | with_reducible refine s_nil ?_
  | with_reducible refine s_un ?_
  | with_reducible refine s_call ?_
  | with_reducible refine s_test ?_
  | with_reducible refine s_tB ?_
  | with_reducible refine s_blQ ?_
  | with_reducible refine s_not ?_
  | with_reducible refine s_and ?_
  | with_reducible refine s_or ?_
  | with_reducible refine s_andV ?_
  | with_reducible refine s_orV ?_
  | with_reducible refine s_notV ?_
  | with_reducible refine s_ifE ?_
  | with_reducible refine s_chain ?_
  | ((with_reducible refine s_T ?_ ?_); (with_reducible exact rfl))
  | with_reducible refine s_nT ?_
  | with_reducible refine s_nF ?_
  | ((with_reducible refine s_F ?_ ?_); (with_reducible exact rfl))
  | ((with_reducible refine s_T ?_ ?_); assumption)
  | ((with_reducible refine s_F ?_ ?_); assumption)
  | ((with_reducible refine s_nB ?_ ?_); assumption)
  | ((with_reducible refine s_nA ?_ ?_); assumption)
  | ((with_reducible refine s_Td ?_ ?_); omega)
  | ((with_reducible refine s_Fd ?_ ?_); omega)
  | ((with_reducible refine s_nTd ?_ ?_); omega)
  | ((with_reducible refine s_nFd ?_ ?_); omega)
  | with_reducible refine s_sfld ?_
  | with_reducible refine s_addI ?_
  | with_reducible refine s_subI ?_
  | ((with_reducible refine s_mulI ?_ ?_); (walk_at "mul"))
  | ((with_reducible refine s_divI ?_ ?_); exact ⟨by omega, by omega⟩)
  | ((with_reducible refine s_modI ?_ ?_); omega)
  | ((with_reducible refine s_powI ?_ ?_); exact ⟨by decide, by decide, by decide⟩)
  | with_reducible refine s_ltI ?_
  | with_reducible refine s_leI ?_
  | with_reducible refine s_gtI ?_
  | with_reducible refine s_geI ?_
  | with_reducible refine s_negI ?_
  | with_reducible refine s_absI ?_
  | with_reducible refine s_intI ?_
  | with_reducible refine s_min2 ?_
  | with_reducible refine s_max2 ?_
  | with_reducible refine s_eqI ?_
  | with_reducible refine s_neI ?_
  | with_reducible refine s_eqS ?_
  | with_reducible refine s_neS ?_
  | with_reducible refine s_inSg ?_
  | with_reducible refine s_notInSg ?_
  | ((with_reducible refine s_addS ?_ ?_); (walk_at "sz"))
  | ((with_reducible refine s_lenS ?_ ?_); (walk_at "sz"))
  | ((with_reducible apply s_lenL); (walk_at "sq"))
  | ((with_reducible apply s_lenT); (walk_at "sqt"))
  | ((with_reducible apply s_ixL); (walk_at "sq"); exact rfl)
  | ((with_reducible apply s_ixT); (walk_at "sqt"); exact rfl)
  | with_reducible refine s_gSub ?_
  | ((with_reducible apply s_setL); (walk_at "hp"); (exact rfl); (intro _ _ _))
  | ((with_reducible refine s_alloc ?_ ?_); (walk_at "sz"); (intro _ _ _ _ _))
  | ((with_reducible refine s_divmod ?_ ?_); (exact ⟨by omega, PyProof.noPylong_small (by omega)⟩); (intro _ _ _ _ _))
  | ((with_reducible apply s_gTup); (walk_at "sqt"); (exact rfl))
  | ((with_reducible apply s_gLst); (walk_at "sq"); (exact rfl))
  | with_reducible refine s_gCons ?_
  | with_reducible refine s_gNil ?_
  | with_reducible refine s_lc ?_
  | ((with_reducible apply s_cat); (walk_at "hp"); (walk_at "hp"); (walk_at "sz"); (intro _ _ _ _ _))
  | ((with_reducible apply s_slL); (walk_at "sq"); (intro _ _ _ _ _))
  | with_reducible refine s_for ?_
  | with_reducible refine s_rng1 ?_
  | ((with_reducible refine s_rng1i ?_ ?_); (constructor <;> omega))
  | with_reducible refine s_rng2 ?_
  | ((with_reducible refine s_rng2i ?_ ?_); (refine ⟨?_, ?_, ?_, ?_⟩ <;> omega))
  | with_reducible refine s_iStr ?_
  | with_reducible refine s_iStrS ?_
  | with_reducible refine s_iList ?_
  | ((with_reducible apply s_iListA); (walk_at "sq"))
  | with_reducible refine s_iTup ?_
  | ((with_reducible apply s_iTupA); (walk_at "sqt"))
  | with_reducible refine s_sl ?_
  | with_reducible refine s_noPart ?_
  | with_reducible refine s_part ?_
  | with_reducible refine s_int1 ?_
  | ((with_reducible refine s_slS ?_ ?_); (walk_at "sz"))
  | with_reducible refine s_tup ?_
  | with_reducible refine s_lst ?_
  | with_reducible refine s_par ?_
  | with_reducible refine s_pair ?_
  | with_reducible refine s_M1 ?_
  | with_reducible refine s_isStr ?_
  | with_reducible refine s_revS ?_
  | ((with_reducible refine s_revS1 ?_ ?_); (walk_at "sz"))
  | with_reducible refine s_fldE ?_
  | with_reducible refine s_propE ?_
  | ((with_reducible refine u_draw ?_ ?_ ?_ ?_); omega; omega; (walk_at "pool"); (intro _ _ _ _ _ _))
  | ((with_reducible refine u_pool ?_); (intro _ _ _ _ _))
  | with_reducible refine u_is_integer ?_
  | with_reducible refine s_isiII ?_
  | with_reducible refine s_isiIB ?_
  | with_reducible refine s_isiSS ?_
  | ((with_reducible apply u_fldRing); assumption; (walk_at "ring"))
  | ((with_reducible apply u_textP); (walk_at "ring"))
  | ((with_reducible apply u_strRing); (walk_at "ring"))
  | ((with_reducible apply u_eqRing); (walk_at "ring"); (walk_at "ring"))
  | ((with_reducible apply u_isiRing); assumption; (walk_at "ring"))
  | ((with_reducible refine u_is_word ?_ ?_); omega; (intro _ _))
  | ((with_reducible refine u_turnings ?_ ?_); omega; (intro _ _ _ _ _))
  | with_reducible refine s_makeE ?_
  | with_reducible refine s_methE ?_)
local macro_rules | `(tactic| walk_at "go") => `(tactic| repeat (walk_at "st"))
local macro_rules | `(tactic| walk_at "exs") => `(tactic| first | exact Ex.rfl | assumption | (apply Ex.snoc (by assumption); walk_at "exs") | (apply Ex.snocW (by assumption); walk_at "exs"))
local macro_rules | `(tactic| walk_at "kind") => `(tactic| first | assumption | (apply KindAt.ex0 (by assumption); (walk_at "kind")) | (apply KindAt.exP (by assumption) (by assumption); (walk_at "kind")))
local macro_rules | `(tactic| walk_at "st") => `(tactic| first
  | with_reducible refine s_lenSet ?_
  | with_reducible refine s_drop ?_
  | with_reducible refine s_bm ?_
  | with_reducible refine s_notN ?_
  | with_reducible refine s_isN ?_
  | ((with_reducible apply s_tyL); (walk_at "hp"))
  | with_reducible refine s_enumT ?_
  | ((with_reducible apply s_enumTA); (walk_at "sqt"))
  | with_reducible refine s_lc2 ?_)
local macro_rules | `(tactic| walk_at "lit") => `(tactic| exact lit_MRK)
local macro_rules | `(tactic| walk_at "st") => `(tactic| first
  | with_reducible refine s_dcT ?_
  | with_reducible refine s_dc ?_)
local macro_rules | `(tactic| walk_at "lit") => `(tactic| exact lit_z)
def t_law_name (K : PySem.W.Frag) : TS :=
  (tSeq (tAsg (tC (.str "abcdefghijklmnopqrstuvwxyz0123456789")) (gName 2))
  (tSeq (tAsg (tOp rIxS (tVar 2) (tCall (sp_law_draw K) [] E0 (tCons (tVar 0) (tCons (tC (.int 26)) tNil)))) (gName 3))
  (tSeq (tAsg (tOp rAddS (tVar 3) (tM1 (rJoin K) (tC (.str "")) (tLc (iRng1 (tCons (tCall (sp_law_draw K) [] E0 (tCons (tVar 0) (tCons (tC (.int 8)) tNil))) tNil)) (gName 4) tYes (tOp rIxS (tVar 2) (tCall (sp_law_draw K) [] E0 (tCons (tVar 0) (tCons (tC (.int 36)) tNil)))) [4]))) (gName 3))
  (tSeq (tIfS (tAnd (tTest (tOp (rNeD K) (tVar 1) (tLst tNil))) (tTest (tOp rGtI (tCall (sp_law_draw K) [] E0 (tCons (tVar 0) (tCons (tC (.int 3)) tNil))) (tC (.int 0))))) (tSeq (tAsg (tOp (rIxL K) (tVar 1) (tCall (sp_law_draw K) [] E0 (tCons (tVar 0) (tCons (tCB (rLenV K) (tCons (tVar 1) tNil)) tNil)))) (gName 5))
  (tSeq (tAsg (tOp rAddI (tC (.int 1)) (tCall (sp_law_draw K) [] E0 (tCons (tVar 0) (tCons (tCB (rLenV K) (tCons (tVar 5) tNil)) tNil)))) (gName 6))
  (tAsg (tSl rSlS (tOp rAddS (tOp rAddS (tSl rSlS (tVar 5) tNoPart (tPart (tVar 6))) (tOp rIxS (tVar 2) (tCall (sp_law_draw K) [] E0 (tCons (tVar 0) (tCons (tC (.int 36)) tNil))))) (tSl rSlS (tVar 5) (tPart (tOp rAddI (tVar 6) (tCall (sp_law_draw K) [] E0 (tCons (tVar 0) (tCons (tC (.int 2)) tNil))))) tNoPart)) tNoPart (tPart (tC (.int 8)))) (gName 3)))) tNext)
  (tSeq (tAsg (tLc (iList K (tOp rCat (tLst (tCons (tVar 3) tNil)) (tLc (iStr (tSl rSlS (tVar 2) tNoPart (tPart (tC (.int 9))))) (gName 9) tYes (tOp rAddS (tC (.str "z")) (tVar 9)) [9]))) (gName 8) (tTest (tOp (rIn K true) (tVar 8) (tVar 1))) (tVar 8) [8]) (gName 7))
  (tRet (tOp (rIxL K) (tVar 7) (tC (.int 0)))))))))
def t_law_names (K : PySem.W.Frag) : TS :=
  (tSeq (tAsg (tLst tNil) (gName 2))
  (tSeq (tFor (iRng1 (tCons (tVar 1) tNil)) (gName 3) (tDrop (tBM K "list" rAppend (tVar 2) (tCons (tCall (sp_law_name K) [] E0 (tCons (tVar 0) (tCons (tVar 2) tNil))) tNil))))
  (tRet (tVar 2))))
def t_law_amount (K : PySem.W.Frag) : TS :=
  (tSeq (tAsg (tCall (sp_law_draw K) [] E0 (tCons (tVar 0) (tCons (tC (.int 12)) tNil))) (gName 2))
  (tSeq (tIfS (tTest (tOp rLtI (tVar 2) (tC (.int 9)))) (tRet (tOp rSubI (tCall (sp_law_draw K) [] E0 (tCons (tVar 0) (tCons (tC (.int 7)) tNil))) (tC (.int 3)))) tNext)
  (tSeq (tIfS (tOr (tTest (tOp rLtI (tVar 2) (tC (.int 11)))) (tNot (tB (tVar 1)))) (tRet (tOp rSubI (tCall (sp_law_draw K) [] E0 (tCons (tVar 0) (tCons (tC (.int 2001)) tNil))) (tC (.int 1000)))) tNext)
  (tRet (tOp (rIxL K) (tLst (tCons (tOp rPowI (tC (.int 10)) (tC (.int 20))) (tCons (tOp rSubI (tUn rNegI (tOp rPowI (tC (.int 10)) (tC (.int 20)))) (tC (.int 1))) (tCons (tOp rAddI (tOp rPowI (tC (.int 10)) (tC (.int 30))) (tC (.int 7))) (tCons (tUn rNegI (tOp rPowI (tC (.int 10)) (tC (.int 30)))) tNil))))) (tCall (sp_law_draw K) [] E0 (tCons (tVar 0) (tCons (tC (.int 4)) tNil))))))))
section
variable {K : PySem.W.Frag} {vs : List V} {H H' : Hp} {Q : VK} {E : XK} {x : Addr} {M : LM}
theorem let_in {r : Int} (h0 : 0 ≤ r) (h1 : r < 26) : ∃ c, MRK[r.toNat]? = some c ∧ c ∈ LET := by
  have hl : r.toNat < LET.length := by show r.toNat < 26; omega
  refine ⟨LET[r.toNat], ?_, List.getElem_mem hl⟩
  unfold MRK
  rw [List.getElem?_append_left hl, List.getElem?_eq_getElem hl]
theorem mrk_in {r : Int} (h0 : 0 ≤ r) (h1 : r < 36) : ∃ c, MRK[r.toNat]? = some c ∧ c ∈ MRK := by
  have hl : r.toNat < MRK.length := by show r.toNat < 36; omega
  exact ⟨MRK[r.toNat], List.getElem?_eq_getElem hl, List.getElem_mem hl⟩
theorem let_mrk {c : Nat} (h : c ∈ LET) : c ∈ MRK := List.mem_append_left _ h
theorem flat1' (ls : List Nat) : (ls.map fun c => [c]).flatten = ls := by induction ls with
  | nil => rfl
  | cons a l ih => simp [ih]
theorem pure_law_name (h : sp_law_name K vs H Q E) : t_law_name K (E1 Q) (start ["_law_pool_here", "_law_found", "_law_marks", "_law_near", "_law_turn", "_law_old", "_law_at", "_law_spares", "_law_mate", "_law_mark"] vs) H := by
  obtain ⟨a, f, rfl, ns, hfa, hf, hns, hnl, hp, k⟩ := h
  show t_law_name K (E1 Q) [some (.ref a), some (.ref f), none, none, none, none, none, none, none, none] H
  unfold t_law_name
  walk_at "go"
  rename_i r H1 r0 r1 e1 p1
  obtain ⟨c, hc, hcl⟩ := let_in r0 r1
  refine s_ixS (by decide) (atI_of r0 hc) ?_
  walk_at "go"
  rename_i r2 H2 r20 r21 e2 p2
  refine lc_run walk_range (by omega) [a] (fun H2 => PoolAt H2 a) (fun i acc _ => ∃ ls : List Nat, acc = ls.map (fun c => vS [c]) ∧ ls.length = i ∧ ∀ c ∈ ls, c ∈ MRK) (fun b hb => by rw [List.mem_singleton.mp hb]; exact p2.there) p2 ⟨[], rfl, rfl, by simp⟩
    (fun H2 D o n h => h.upd n) (fun _ _ _ _ _ _ h => h) (fun _ _ => trivial) ?_ ?_
  · rintro i acc x H3 H4 C1 C0 hi e3 p3 ⟨ls, rfl, hls, hin⟩ ⟨rfl, rfl⟩ k1 k0
    refine ⟨wipe1 _ _ _, ?_⟩
    refine s_yes ?_
    walk_at "go"
    rename_i r3 H5 r30 r31 e5 p5
    obtain ⟨d, hd, hdm⟩ := mrk_in r30 r31
    refine s_ixS (by decide) (atI_of r30 hd) ?_
    refine k1 _ _ e5 p5 ⟨ls ++ [d], by rw [List.map_append]; rfl, by rw [List.length_append, hls]; rfl, fun x hx => ?_⟩
    rcases List.mem_append.mp hx with hx | hx
    · exact hin x hx
    · rw [List.mem_singleton.mp hx]; exact hdm
  rintro D H3 ys hD e3 p3 hd hyl ⟨ls, rfl, hls, hin⟩
  have hfl := flat1' ls
  refine s_join0 (ls := ls.map fun c => [c]) (by rw [List.map_map]; exact SqL.of hd) (by rw [hfl]; omega) ?_
  rw [hfl]
  refine s_addS (Nat.le_trans (show _ ≤ 100 by simp; omega) (by decide)) ?_
  refine s_gName ?_
  refine s_seq ?_
  have e03 : Ex [a] H H3 := (e1.trans e2).trans e3
  have hn0 : isName ([c] ++ ls) := ⟨by simp, by simp; omega, ⟨c, ls, rfl, hcl⟩, fun x hx => by
    rcases List.mem_append.mp hx with hx | hx
    · rw [List.mem_singleton.mp hx]; exact let_mrk hcl
    · exact hin x hx⟩
  revert hn0
  generalize [c] ++ ls = n0
  intro hn0
  clear e1 e2 e3 hd hD hyl hls hin hfl hc hcl p1 p2 r0 r1 r20 r21
  refine s_cutS (fun σ G => ∃ n x4 x5 x6, σ = [some (.ref a), some (.ref f), some (vS MRK), some (vS n), x4, x5, x6, none, none, none] ∧ isName n ∧ Ex [a] H G ∧ PoolAt G a) ?_ ?_
  · intro n' kn
    walk_at "go"
    rename_i q H4 nq e4 h4
    have hf4 : H4 f = some (.lst (ns.map vS)) := e4.get0 (e03.get (by simpa using hfa) hf)
    refine s_neLS (ls := ns) (ms := []) (SqL.of hf4) (SqL.of h4) (fun l hl => name_plain (hns l hl)) (by simp) ?_
    walk_at "go"
    have e04 : Ex [a] H H4 := e03.trans e4.wide
    have p4 : PoolAt H4 a := p3.ex e4 (by simp)
    clear e4 nq h4 e03 p3
    by_cases hn : ns = []
    · refine s_F (by simp [hn]) ?_
      walk_at "go"
      exact kn _ _ ⟨n0, _, _, _, rfl, hn0, e04, p4⟩
    refine s_T (by simp [hn]) ?_
    walk_at "go"
    rename_i r5 H5 r50 r51 e5 p5
    by_cases hr5 : 0 < r5
    rotate_left
    · refine s_F (decide_eq_false hr5) ?_
      walk_at "go"
      exact kn _ _ ⟨n0, _, _, _, rfl, hn0, e04.trans e5, p5⟩
    refine s_T (decide_eq_true hr5) ?_
    have hlen : 0 < (ns.map vS).length ∧ (ns.map vS).length ≤ 6 := by rw [List.length_map]; exact ⟨List.length_pos_iff.mpr hn, hnl⟩
    have hf5 : H5 f = some (.lst (ns.map vS)) := e5.get (by simpa using hfa) hf4
    walk_at "go"
    rename_i r6 H6 r60 r61 e6 p6
    rw [List.length_map] at r61
    have hf6 : H6 f = some (.lst (ns.map vS)) := e6.get (by simpa using hfa) hf5
    obtain ⟨old, hold⟩ : ∃ c, ns[r6.toNat]? = some c := ⟨_, List.getElem?_eq_getElem (by omega)⟩
    obtain ⟨o1, o2, ⟨o, os, ho, hoL⟩, o3⟩ := hns old (List.mem_of_getElem? hold)
    refine s_ixL (xs := ns.map vS) (v := vS old) (SqL.of hf6) (atI_of r60 (by rw [List.getElem?_map, hold]; rfl)) ?_
    walk_at "go"
    rename_i r7 H7 r70 r71 e7 p7 r8 H8 r80 r81 e8 p8
    obtain ⟨d, hd, hdm⟩ := mrk_in r80 r81
    refine s_ixS (by decide) (atI_of r80 hd) ?_
    rw [cut_to (by omega)]
    have ht1 : (old.take (1 + r7).toNat).length ≤ 8 := by rw [List.length_take]; omega
    refine s_addS (Nat.le_trans (show _ ≤ 100 by simp; omega) (by decide)) ?_
    walk_at "go"
    rename_i r9 H9 r90 r91 e9 p9
    rw [cut_from (by omega)]
    have ht2 : (old.drop (1 + r7 + r9).toNat).length ≤ 8 := by rw [List.length_drop]; omega
    refine s_addS (Nat.le_trans (show _ ≤ 100 by simp; omega) (by decide)) ?_
    refine s_noPart ?_
    walk_at "go"
    rw [cut_to (by omega)]
    refine kn _ _ ⟨_, _, _, _, rfl, ?_, (((e04.trans e5).trans (e6.trans e7)).trans e8).trans e9, p9⟩
    obtain ⟨t, ht⟩ : ∃ t, (1 + r7).toNat = t + 1 := ⟨(1 + r7).toNat - 1, by omega⟩
    refine ⟨?_, ?_, ⟨o, ?_, ?_, hoL⟩, ?_⟩
    · rw [List.length_take]
      simp only [List.length_append, List.length_take, List.length_singleton]
      omega
    · rw [List.length_take]
      show min 8 _ ≤ 8
      omega
    · exact ((os.take t ++ [d]) ++ old.drop (1 + r7 + r9).toNat).take 7
    · rw [ht]
      conv => lhs; rw [ho]
      show List.take (7 + 1) ((o :: os).take (t + 1) ++ [d] ++ _) = _
      rw [List.take_succ_cons, List.cons_append, List.cons_append, List.take_succ_cons]
      rw [ho]
    · intro x hx
      have hx := List.mem_of_mem_take hx
      rcases List.mem_append.mp hx with hx | hx
      · rcases List.mem_append.mp hx with hx | hx
        · exact o3 x (List.mem_of_mem_take hx)
        · rw [List.mem_singleton.mp hx]; exact hdm
      · exact o3 x (List.mem_of_mem_drop hx)
  · rintro σ G ⟨n, x4, x5, x6, rfl, hn, e4, p4⟩
    walk_at "go"
    rename_i q H5 nq e5 h5
    refine s_slS (Nat.le_trans (show MRK.length ≤ 100 by decide) (by decide)) ?_
    rw [show cut MRK none (some 9) = LET.take 9 by rw [cut_to (by decide)]; rfl]
    walk_at "go"
    refine lc_mapS (by decide) (fun _ => true) (fun c => vS [122, c]) (fun d H6 C1 C0 hd e6 k1 k0 => ?_) (fun D H6 hD e6 h6 => ?_)
    · refine s_yes ?_
      walk_at "go"
      exact k1 _ Ex.rfl rfl
    refine s_cat (e6.get0 h5) h6 (Nat.le_trans (m := 100) (by simp) (by decide)) fun u H7 nu e7 h7 => ?_
    have hls : ([vS n] ++ ((LET.take 9).filter fun _ => true).map fun c => vS [122, c]) = (n :: (LET.take 9).map fun c => [122, c]).map vS := rfl
    rw [hls] at h7
    have hf7 : H7 f = some (.lst (ns.map vS)) := e7.get0 (e6.get0 (e5.get0 (e4.get (by simpa using hfa) hf)))
    walk_at "go"
    refine lc_fm8 (ls := n :: (LET.take 9).map fun c => [122, c]) (SqL.of h7) (by simp) (fun l => !decide (l ∈ ns)) vS (fun l H8 C1 C0 hl e8 k1 k0 => ?_) (fun D2 H8 hD2 e8 h8 => ?_)
    · walk_at "go"
      refine s_notInL (SqL.of (e8.get0 hf7)) ?_
      walk_at "go"
      refine s_2 (fun hb => ?_) (fun hb => ?_)
      · walk_at "go"
        exact k1 _ Ex.rfl hb
      · exact k0 _ Ex.rfl hb
    have e08 : Ex [a] H H8 := e4.trans (((e5.trans e6).trans (e7.trans e8)).wide)
    have p08 : PoolAt H8 a := p4.ex ((e5.trans e6).trans (e7.trans e8)) (by simp)
    have hmem : ∀ l ∈ (n :: (LET.take 9).map fun c => [122, c]), isName l := fun l hl => by
      rcases List.mem_cons.mp hl with rfl | hl
      · exact hn
      · obtain ⟨c, hc, rfl⟩ := List.mem_map.mp hl
        exact ⟨by simp, by simp, ⟨122, [c], rfl, by decide⟩, fun x hx => by
          rcases List.mem_cons.mp hx with rfl | hx
          · decide
          · rw [List.mem_singleton.mp hx]; exact let_mrk (List.mem_of_mem_take hc)⟩
    obtain ⟨l0, rest, hfl⟩ : ∃ l0 rest, (n :: (LET.take 9).map fun c => [122, c]).filter (fun l => !decide (l ∈ ns)) = l0 :: rest := by
      refine List.exists_cons_of_ne_nil fun hnil => ?_
      have hall : ∀ l ∈ (LET.take 9).map (fun c => [122, c]), l ∈ ns := fun l hl => by
        have := List.filter_eq_nil_iff.mp hnil l (List.mem_cons_of_mem _ hl)
        simpa using this
      have := nodup_le _ ns (by decide : ((LET.take 9).map (fun c => [122, c])).Nodup) hall
      have h9 : ((LET.take 9).map (fun c => [122, c])).length = 9 := rfl
      omega
    rw [hfl] at h8
    have hm0 : l0 ∈ (n :: (LET.take 9).map fun c => [122, c]).filter (fun l => !decide (l ∈ ns)) := by rw [hfl]; exact List.mem_cons_self
    obtain ⟨hm1, hm2⟩ := List.mem_filter.mp hm0
    walk_at "go"
    refine s_ixL (v := vS l0) (SqL.of h8) (atI_of (by decide) rfl) ?_
    exact k l0 _ (hmem l0 hm1) (by simpa using hm2) e08 p08
theorem pure_law_names (h : sp_law_names K vs H Q E) : t_law_names K (E1 Q) (start ["_law_pool_here", "_law_many", "_law_found", "_law_turn"] vs) H := by
  obtain ⟨a, m, rfl, m1, m6, hp, k⟩ := h
  show t_law_names K (E1 Q) [some (.ref a), some (.int m), none, none] H
  unfold t_law_names
  walk_at "go"
  rename_i q H1 nq e1 h1
  have hqa : q ≠ a := fun z => hp.there (z ▸ nq)
  refine for_run walk_range (fun i σ G => ∃ (ns : List (List Nat)) (x3 : Option V), σ = [some (.ref a), some (.int m), some (.ref q), x3] ∧ ns.length = i ∧ ns.Nodup ∧ (∀ n ∈ ns, isName n) ∧ Ex [a] H G ∧ PoolAt G a ∧ G q = some (.lst (ns.map vS))) ⟨[], none, rfl, rfl, by simp, by simp, e1.wide, hp.ex e1 (by simp), h1⟩ (fun _ _ _ _ _ => trivial) ?_ ?_
  · rintro i x σ G G2 hi ⟨ns, x3, rfl, hl, hd, hn, e2, p2, h2⟩ ⟨rfl, rfl⟩
    walk_at "go"
    refine u_name hqa h2 hn (by omega) p2 fun n G3 hn3 hni e3 p3 => ?_
    have h3 := e3.get (by simpa using hqa) h2
    walk_at "go"
    refine s_append h3 (Nat.lt_of_le_of_lt (show _ ≤ 100 by simp; omega) (by decide)) fun G4 e4 h4 => ?_
    refine ⟨ns ++ [n], _, rfl, by simp [hl], ?_, fun l hl => ?_, Ex.dropN nq (e2.trans e3) e4, p3.ex e4 (by simpa using Ne.symm hqa), by rw [h4, List.map_append]; rfl⟩
    · exact List.nodup_append.mpr ⟨hd, by simp, fun x hx y hy z => hni (by rw [List.mem_singleton.mp hy] at z; rw [← z]; exact hx)⟩
    · rcases List.mem_append.mp hl with hl | hl
      · exact hn l hl
      · rw [List.mem_singleton.mp hl]; exact hn3
  · rintro σ G ⟨ns, x3, rfl, hl, hd, hn, e2, p2, h2⟩
    walk_at "go"
    exact k ns q _ ⟨by omega, by omega, hd, hn⟩ (by omega) nq e2 p2 h2
theorem pure_law_amount (h : sp_law_amount K vs H Q E) : t_law_amount K (E1 Q) (start ["_law_pool_here", "_law_great", "_law_way"] vs) H := by
  obtain ⟨a, g, rfl, hp, k⟩ := h
  show t_law_amount K (E1 Q) [some (.ref a), some (.bl g), none] H
  unfold t_law_amount
  walk_at "go"
  rename_i r H1 r0 r1 e1 p1
  have hB : 2000 ≤ 2 ^ 200 := by decide
  by_cases h1 : r < 9
  · refine s_T (decide_eq_true h1) ?_
    walk_at "go"
    rename_i r2 H2 r20 r21 e2 p2
    exact k _ _ (by omega) (e1.trans e2) p2
  refine s_F (decide_eq_false h1) ?_
  walk_at "go"
  have small : ∀ G, Ex [a] H1 G → PoolAt G a → (tRet (tOp rSubI (tCall (sp_law_draw K) [] E0 (tCons (tVar 0) (tCons (tC (.int 2001)) tNil))) (tC (.int 1000)))) (E1 Q) [some (.ref a), some (.bl g), some (.int r)] G := by
    intro G eG pG
    show tRet _ ⟨_, _, _, _⟩ _ _
    walk_at "go"
    rename_i r2 H2 r20 r21 e2 p2
    exact k _ _ (by omega) (e1.trans (eG.trans e2)) p2
  by_cases h2 : r < 11
  · refine s_T (decide_eq_true h2) ?_
    walk_at "go"
    rename_i r2 H2 r20 r21 e2 p2
    exact k _ _ (by omega) (e1.trans e2) p2
  refine s_F (decide_eq_false h2) ?_
  walk_at "go"
  refine s_2 (fun hg => ?_) (fun hg => ?_)
  · walk_at "go"
    rename_i r2 H2 r20 r21 e2 p2
    exact k _ _ (by omega) (e1.trans e2) p2
  walk_at "go"
  rename_i q H2 nq e2 h3 r3 H3 r30 r31 e3 p3
  have hqa : q ≠ a := fun z => p1.there (z ▸ nq)
  have h4 := e3.get (by simpa using hqa) h3
  have e03 : Ex [a] H H3 := (e1.trans e2.wide).trans e3
  have hr : r3 = 0 ∨ r3 = 1 ∨ r3 = 2 ∨ r3 = 3 := by omega
  rcases hr with rfl | rfl | rfl | rfl
  · exact s_ixL (SqL.of h4) (atI_of (by decide) rfl) (k _ _ (by decide) e03 p3)
  · exact s_ixL (SqL.of h4) (atI_of (by decide) rfl) (k _ _ (by decide) e03 p3)
  · exact s_ixL (SqL.of h4) (atI_of (by decide) rfl) (k _ _ (by decide) e03 p3)
  · exact s_ixL (SqL.of h4) (atI_of (by decide) rfl) (k _ _ (by decide) e03 p3)
end
end WB
namespace WB
open PySem PySem.Spec PyProof.Rows L2
local macro_rules | `(tactic| walk_at "lit") => `(tactic| first | exact lit_abc | exact lit_empty)
local macro_rules | `(tactic| walk_at "nm") => `(tactic| focus first | exact List.not_mem_nil | (simp only [List.mem_singleton]; first | assumption | (exact Ne.symm (by assumption)) | (intro hz; subst hz; simp_all; done)))
local macro_rules | `(tactic| walk_at "hp") => `(tactic| first | assumption | (apply Ex.get0 (by assumption); walk_at "hp") | (apply Ex.get (by assumption); (walk_at "nm"); (walk_at "hp")))
local macro_rules | `(tactic| walk_at "sq") => `(tactic| first | assumption | (apply SqL.of; walk_at "hp") | (apply Ex.sqL (by assumption); (walk_at "nm"); (walk_at "sq")))
local macro_rules | `(tactic| walk_at "sqt") => `(tactic| first | assumption | (apply SqT.of; walk_at "hp") | (apply Ex.sqT (by assumption); (walk_at "nm"); (walk_at "sqt")))
local macro_rules | `(tactic| walk_at "sz") => `(tactic| focus ((with_reducible refine Nat.le_trans (m := 100000) ?_ (by decide)); first | omega | (simp; done) | (simp; omega)))
local macro_rules | `(tactic| walk_at "mul") => `(tactic| first | exact Or.inr ⟨by omega, by omega⟩ | exact Or.inl ⟨by omega, by omega⟩)
local macro_rules | `(tactic| walk_at "pool") => `(tactic| first | assumption | (apply PoolAt.ex (by assumption); (walk_at "nm"); (walk_at "pool")))
local macro_rules | `(tactic| walk_at "ring") => `(tactic| first | assumption | (apply RingAt.ex (by assumption); (walk_at "nm"); (walk_at "ring")))
local macro_rules | `(tactic| walk_at "st") => `(tactic| first
  | with_reducible refine s_seq ?_
  | with_reducible refine s_asg ?_
  | with_reducible refine s_gName ?_
  | with_reducible refine s_ret ?_
  | with_reducible refine s_ifS ?_
  | with_reducible refine s_next ?_
  | with_reducible refine s_op ?_
  | ((with_reducible apply s_var); exact rfl)
  | ((with_reducible apply s_cS); (walk_at "lit"))
  | with_reducible refine s_c ?_
  | with_reducible refine s_cb ?_
  | with_reducible refine s_cons ?_
  | with_reducible refine s_nil ?_
  | with_reducible refine s_un ?_
  | with_reducible refine s_call ?_
  | with_reducible refine s_test ?_
  | with_reducible refine s_tB ?_
  | with_reducible refine s_blQ ?_
  | with_reducible refine s_not ?_
  | with_reducible refine s_and ?_
  | with_reducible refine s_or ?_
  | with_reducible refine s_andV ?_
  | with_reducible refine s_orV ?_
  | with_reducible refine s_notV ?_
  | with_reducible refine s_ifE ?_
  | with_reducible refine s_chain ?_
  | ((with_reducible refine s_T ?_ ?_); (with_reducible exact rfl))
  | with_reducible refine s_nT ?_
  | with_reducible refine s_nF ?_
  | ((with_reducible refine s_F ?_ ?_); (with_reducible exact rfl))
  | ((with_reducible refine s_T ?_ ?_); assumption)
  | ((with_reducible refine s_F ?_ ?_); assumption)
  | ((with_reducible refine s_nB ?_ ?_); assumption)
  | ((with_reducible refine s_nA ?_ ?_); assumption)
  | ((with_reducible refine s_Td ?_ ?_); omega)
  | ((with_reducible refine s_Fd ?_ ?_); omega)
  | ((with_reducible refine s_nTd ?_ ?_); omega)
  | ((with_reducible refine s_nFd ?_ ?_); omega)
  | with_reducible refine s_sfld ?_
  | with_reducible refine s_addI ?_
  | with_reducible refine s_subI ?_
  | ((with_reducible refine s_mulI ?_ ?_); (walk_at "mul"))
  | ((with_reducible refine s_divI ?_ ?_); exact ⟨by omega, by omega⟩)
  | ((with_reducible refine s_modI ?_ ?_); omega)
  | ((with_reducible refine s_powI ?_ ?_); exact ⟨by decide, by decide, by decide⟩)
  | with_reducible refine s_ltI ?_
  | with_reducible refine s_leI ?_
  | with_reducible refine s_gtI ?_
  | with_reducible refine s_geI ?_
  | with_reducible refine s_negI ?_
  | with_reducible refine s_absI ?_
  | with_reducible refine s_intI ?_
  | with_reducible refine s_min2 ?_
  | with_reducible refine s_max2 ?_
  | with_reducible refine s_eqI ?_
  | with_reducible refine s_neI ?_
  | with_reducible refine s_eqS ?_
  | with_reducible refine s_neS ?_
  | with_reducible refine s_inSg ?_
  | with_reducible refine s_notInSg ?_
  | ((with_reducible refine s_addS ?_ ?_); (walk_at "sz"))
  | ((with_reducible refine s_lenS ?_ ?_); (walk_at "sz"))
  | ((with_reducible apply s_lenL); (walk_at "sq"))
  | ((with_reducible apply s_lenT); (walk_at "sqt"))
  | ((with_reducible apply s_ixL); (walk_at "sq"); exact rfl)
  | ((with_reducible apply s_ixT); (walk_at "sqt"); exact rfl)
  | with_reducible refine s_gSub ?_
  | ((with_reducible apply s_setL); (walk_at "hp"); (exact rfl); (intro _ _ _))
  | ((with_reducible refine s_alloc ?_ ?_); (walk_at "sz"); (intro _ _ _ _ _))
  | ((with_reducible refine s_divmod ?_ ?_); (exact ⟨by omega, PyProof.noPylong_small (by omega)⟩); (intro _ _ _ _ _))
  | ((with_reducible apply s_gTup); (walk_at "sqt"); (exact rfl))
  | ((with_reducible apply s_gLst); (walk_at "sq"); (exact rfl))
  | with_reducible refine s_gCons ?_
  | with_reducible refine s_gNil ?_
  | with_reducible refine s_lc ?_
  | ((with_reducible apply s_cat); (walk_at "hp"); (walk_at "hp"); (walk_at "sz"); (intro _ _ _ _ _))
  | ((with_reducible apply s_slL); (walk_at "sq"); (intro _ _ _ _ _))
  | with_reducible refine s_for ?_
  | with_reducible refine s_rng1 ?_
  | ((with_reducible refine s_rng1i ?_ ?_); (constructor <;> omega))
  | with_reducible refine s_rng2 ?_
  | ((with_reducible refine s_rng2i ?_ ?_); (refine ⟨?_, ?_, ?_, ?_⟩ <;> omega))
  | with_reducible refine s_iStr ?_
  | with_reducible refine s_iStrS ?_
  | with_reducible refine s_iList ?_
  | ((with_reducible apply s_iListA); (walk_at "sq"))
  | with_reducible refine s_iTup ?_
  | ((with_reducible apply s_iTupA); (walk_at "sqt"))
  | with_reducible refine s_sl ?_
  | with_reducible refine s_noPart ?_
  | with_reducible refine s_part ?_
  | with_reducible refine s_int1 ?_
  | ((with_reducible refine s_slS ?_ ?_); (walk_at "sz"))
  | with_reducible refine s_tup ?_
  | with_reducible refine s_lst ?_
  | with_reducible refine s_par ?_
  | with_reducible refine s_pair ?_
  | with_reducible refine s_M1 ?_
  | with_reducible refine s_isStr ?_
  | with_reducible refine s_revS ?_
  | ((with_reducible refine s_revS1 ?_ ?_); (walk_at "sz"))
  | with_reducible refine s_fldE ?_
  | with_reducible refine s_propE ?_
  | ((with_reducible refine u_draw ?_ ?_ ?_ ?_); omega; omega; (walk_at "pool"); (intro _ _ _ _ _ _))
  | ((with_reducible refine u_pool ?_); (intro _ _ _ _ _))
  | with_reducible refine u_is_integer ?_
  | with_reducible refine s_isiII ?_
  | with_reducible refine s_isiIB ?_
  | with_reducible refine s_isiSS ?_
  | ((with_reducible apply u_fldRing); assumption; (walk_at "ring"))
  | ((with_reducible apply u_textP); (walk_at "ring"))
  | ((with_reducible apply u_strRing); (walk_at "ring"))
  | ((with_reducible apply u_eqRing); (walk_at "ring"); (walk_at "ring"))
  | ((with_reducible apply u_isiRing); assumption; (walk_at "ring"))
  | ((with_reducible refine u_is_word ?_ ?_); omega; (intro _ _))
  | ((with_reducible refine u_turnings ?_ ?_); omega; (intro _ _ _ _ _))
  | with_reducible refine s_makeE ?_
  | with_reducible refine s_methE ?_)
local macro_rules | `(tactic| walk_at "go") => `(tactic| repeat (walk_at "st"))
local macro_rules | `(tactic| walk_at "exs") => `(tactic| first | exact Ex.rfl | assumption | (apply Ex.snoc (by assumption); walk_at "exs") | (apply Ex.snocW (by assumption); walk_at "exs"))
local macro_rules | `(tactic| walk_at "kind") => `(tactic| first | assumption | (apply KindAt.ex0 (by assumption); (walk_at "kind")) | (apply KindAt.exP (by assumption) (by assumption); (walk_at "kind")))
local macro_rules | `(tactic| walk_at "st") => `(tactic| first
  | with_reducible refine s_lenSet ?_
  | with_reducible refine s_drop ?_
  | with_reducible refine s_bm ?_
  | with_reducible refine s_notN ?_
  | with_reducible refine s_isN ?_
  | ((with_reducible apply s_tyL); (walk_at "hp"))
  | with_reducible refine s_enumT ?_
  | ((with_reducible apply s_enumTA); (walk_at "sqt"))
  | with_reducible refine s_lc2 ?_)
local macro_rules | `(tactic| walk_at "lit") => `(tactic| exact lit_MRK)
local macro_rules | `(tactic| walk_at "st") => `(tactic| first
  | with_reducible refine s_dcT ?_
  | with_reducible refine s_dc ?_)
local macro_rules | `(tactic| walk_at "lit") => `(tactic| exact lit_z)
def t_law_model (K : PySem.W.Frag) : TS :=
  (tSeq (tAsg (tCall (sp_law_names K) [] E0 (tCons (tVar 0) (tCons (tOp rAddI (tC (.int 1)) (tCall (sp_law_draw K) [] E0 (tCons (tVar 0) (tCons (tVar 2) tNil)))) tNil))) (gName 4))
  (tSeq (tPar 5 6 (tCons tDNewT (tCons tDNewK tNil)))
  (tSeq (tFor (iList K (tVar 4)) (gName 7) (tSeq (tFor (iStr (tVar 1)) (gName 8) (sDPut (tVar 5) (tTup (tCons (tVar 7) (tCons (tVar 8) tNil))) (tTup (tCons (tOp (rIxL K) (tVar 4) (tCall (sp_law_draw K) [] E0 (tCons (tVar 0) (tCons (tCB (rLenV K) (tCons (tVar 4) tNil)) tNil)))) (tCons (tCall (sp_law_amount K) [] E0 (tCons (tVar 0) (tCons (tVar 3) tNil))) tNil)))))
  (tSeq (sDPut (tVar 6) (tVar 7) (tTup (tCons (tVar 7) (tCons (tC (.int 0)) tNil))))
  (tIfS (tTest (tOp rGtI (tCall (sp_law_draw K) [] E0 (tCons (tVar 0) (tCons (tC (.int 3)) tNil))) (tC (.int 0)))) (sDPut (tVar 6) (tVar 7) (tTup (tCons (tOp (rIxL K) (tVar 4) (tCall (sp_law_draw K) [] E0 (tCons (tVar 0) (tCons (tCB (rLenV K) (tCons (tVar 4) tNil)) tNil)))) (tCons (tCall (sp_law_amount K) [] E0 (tCons (tVar 0) (tCons (tVar 3) tNil))) tNil)))) tNext))))
  (tSeq (tAsg (tLc (iList K (tVar 4)) (gName 7) (tTest (tOp rEq (tCall (sp_law_draw K) [] E0 (tCons (tVar 0) (tCons (tC (.int 2)) tNil))) (tC (.int 0)))) (tVar 7) [7]) (gName 9))
  (tRet (tLst (tCons (tVar 1) (tCons (tVar 4) (tCons (tVar 5) (tCons (tVar 6) (tCons (tVar 9) tNil)))))))))))
section
variable {K : PySem.W.Frag} {vs : List V} {H H' : Hp} {Q : VK} {E : XK} {x q : Addr} {M : LM}
theorem s_dnewT {σ : St} (k : ∀ p H2, H p = none → Ex [] H H2 → H2 p = some (.dT []) → Q (.ref p) H2) : tDNewT σ H Q := fun p hp => k p _ hp (Ex.new hp) upd_same
theorem s_dnewK {σ : St} (k : ∀ p H2, H p = none → Ex [] H H2 → H2 p = some (.dK []) → Q (.ref p) H2) : tDNewK σ H Q := fun p hp => k p _ hp (Ex.new hp) upd_same
theorem s_dput {td ty tv : TE} {n b c : St → Hp → Prop} {rt : VK} {σ : St} (k : tv σ H fun v H1 => td σ H1 fun x H2 => ty σ H2 fun y H3 => ∃ a H4, x = .ref a ∧ DPut H3 a y v H4 ∧ n σ H4) : sDPut td ty tv ⟨n, rt, b, c⟩ σ H := k
def TE1 (K : PySem.W.Frag) (H : Hp) (st : List (List Nat)) (kt : List (List Key × V)) (b : List Nat) (c : Nat) : Prop := ∃ (z : List Nat × Int) (p : Addr), valV kt [kS b, kS [c]] = some (.ref p) ∧ SqT K H p [vS z.1, .int z.2] ∧ z.1 ∈ st ∧ z.2.natAbs ≤ 2 ^ 200
def EE1 (K : PySem.W.Frag) (H : Hp) (st : List (List Nat)) (ke : List (Key × V)) (b : List Nat) : Prop := ∃ (z : List Nat × Int) (p : Addr), valV ke (kS b) = some (.ref p) ∧ SqT K H p [vS z.1, .int z.2] ∧ z.1 ∈ st ∧ z.2.natAbs ≤ 2 ^ 200
structure MSt (K : PySem.W.Frag) (H0 : Hp) (a po ss es : Addr) (st : List (List Nat)) (D : List Nat → Nat → Prop) (D2 : List Nat → Prop) (n : Nat) (H : Hp) : Prop where
  ex : Ex [a] H0 H
  pool : PoolAt H a
  po : H po = some (.lst (st.map vS))
  tb : ∃ kt, H ss = some (.dT kt) ∧ kt.length ≤ n ∧ ∀ b c, D b c → TE1 K H st kt b c
  en : ∃ ke, H es = some (.dK ke) ∧ ke.length ≤ n ∧ ∀ b, D2 b → EE1 K H st ke b
section
variable {H0 : Hp} {a po ss es : Addr} {st : List (List Nat)} {D : List Nat → Nat → Prop} {D2 : List Nat → Prop} {n : Nat}
theorem MSt.ex0 (e : Ex [] H H') (m : MSt K H0 a po ss es st D D2 n H) : MSt K H0 a po ss es st D D2 n H' := by
  obtain ⟨h1, h2, h3, ⟨kt, h4, h5, h6⟩, ⟨ke, h7, h8, h9⟩⟩ := m
  refine ⟨h1.trans e.wide, h2.ex e (by simp), e.get0 h3, ⟨kt, e.get0 h4, h5, fun b c d => ?_⟩, ⟨ke, e.get0 h7, h8, fun b d => ?_⟩⟩
  · obtain ⟨z, p, z1, z2, z3⟩ := h6 b c d
    exact ⟨z, p, z1, e.sqT (by simp) z2, z3⟩
  · obtain ⟨z, p, z1, z2, z3⟩ := h9 b d
    exact ⟨z, p, z1, e.sqT (by simp) z2, z3⟩
theorem MSt.draw (e : Ex [a] H H') (hp : PoolAt H' a) (m : MSt K H0 a po ss es st D D2 n H) : MSt K H0 a po ss es st D D2 n H' := by
  obtain ⟨h1, h2, h3, ⟨kt, h4, h5, h6⟩, ⟨ke, h7, h8, h9⟩⟩ := m
  have h2' := h2
  obtain ⟨y1, y2, y3, hq⟩ := h2'
  refine ⟨h1.trans e, hp, e.get ?_ h3, ⟨kt, e.get ?_ h4, h5, fun b c d => ?_⟩, ⟨ke, e.get ?_ h7, h8, fun b d => ?_⟩⟩
  · simp only [List.mem_singleton]; intro w; rw [w, hq] at h3; exact strs_ne (HO.lst.inj (Option.some.inj h3)).symm
  · simp only [List.mem_singleton]; intro w; rw [w, hq] at h4; cases h4
  · obtain ⟨z, p, z1, z2, z3⟩ := h6 b c d
    exact ⟨z, p, z1, sqT_pool h2 e z2, z3⟩
  · simp only [List.mem_singleton]; intro w; rw [w, hq] at h7; cases h7
  · obtain ⟨z, p, z1, z2, z3⟩ := h9 b d
    exact ⟨z, p, z1, sqT_pool h2 e z2, z3⟩
theorem MSt.putT {k0 p : Addr} {x y : List Nat} {c : Nat} {z : Int} (m : MSt K H0 a po ss es st D D2 n H) (hss : H0 ss = none) (hn : n ≤ 1000) (hk : H k0 = some (.tup [vS x, vS [c]])) (hp : SqT K H p [vS y, .int z]) (hy : y ∈ st) (hz : z.natAbs ≤ 2 ^ 200) :
    ∃ H4, DPut H ss (.ref k0) (.ref p) H4 ∧ MSt K H0 a po ss es st (fun b d => D b d ∨ (b = x ∧ d = c)) D2 (n + 1) H4 := by
  obtain ⟨h1, h2, h3, ⟨kt, h4, h5, h6⟩, ⟨ke, h7, h8, h9⟩⟩ := m
  have h2' := h2
  obtain ⟨y1, y2, y3, hq⟩ := h2'
  have e : Ex [ss] H (upd H ss (.dT (putK kt [kS x, kS [c]] (.ref p)))) := Ex.put (by simp)
  have keep : ∀ {t : Addr} {xs : List V}, SqT K H t xs → SqT K (upd H ss (.dT (putK kt [kS x, kS [c]] (.ref p)))) t xs := fun h => sqT_non h4 (fun _ w => by cases w) (fun _ _ w => by cases w) e h
  refine ⟨_, DPut.t h4 (k := [kS x, kS [c]]) hk (Nat.lt_of_le_of_lt (Nat.le_trans h5 hn) (by decide)), ?_, ?_, ?_, ⟨_, upd_same, Nat.le_trans (length_putK _ _ _) (by omega), fun b d hbd => ?_⟩, ⟨ke, ?_, by omega, fun b hb => ?_⟩⟩
  · exact Ex.dropN hss h1 e
  · exact h2.ex e (by simp only [List.mem_singleton]; intro w; rw [← w, hq] at h4; cases h4)
  · exact e.get (by simp only [List.mem_singleton]; intro w; rw [w, h4] at h3; cases h3) h3
  · by_cases hk : b = x ∧ d = c
    · obtain ⟨rfl, rfl⟩ := hk
      exact ⟨(y, z), p, by rw [valV_put, if_pos rfl], keep hp, hy, hz⟩
    · obtain ⟨z', p', z1, z2, z3⟩ := h6 b d (hbd.resolve_right hk)
      refine ⟨z', p', ?_, keep z2, z3⟩
      rw [valV_put, if_neg, z1]
      intro w
      have w1 := List.cons.inj w
      have w2 := List.cons.inj w1.2
      exact hk ⟨kS_inj w1.1, by have := kS_inj w2.1; simpa using this⟩
  · exact e.get (by simp only [List.mem_singleton]; intro w; rw [w, h4] at h7; cases h7) h7
  · obtain ⟨z', p', z1, z2, z3⟩ := h9 b hb
    exact ⟨z', p', z1, keep z2, z3⟩
theorem MSt.putE {p : Addr} {x y : List Nat} {z : Int} (m : MSt K H0 a po ss es st D D2 n H) (hes : H0 es = none) (hn : n ≤ 1000) (hp : SqT K H p [vS y, .int z]) (hy : y ∈ st) (hz : z.natAbs ≤ 2 ^ 200) :
    ∃ H4, DPut H es (vS x) (.ref p) H4 ∧ MSt K H0 a po ss es st D (fun b => D2 b ∨ b = x) (n + 1) H4 := by
  obtain ⟨h1, h2, h3, ⟨kt, h4, h5, h6⟩, ⟨ke, h7, h8, h9⟩⟩ := m
  have h2' := h2
  obtain ⟨y1, y2, y3, hq⟩ := h2'
  have e : Ex [es] H (upd H es (.dK (putK ke (kS x) (.ref p)))) := Ex.put (by simp)
  have keep : ∀ {t : Addr} {xs : List V}, SqT K H t xs → SqT K (upd H es (.dK (putK ke (kS x) (.ref p)))) t xs := fun h => sqT_non h7 (fun _ w => by cases w) (fun _ _ w => by cases w) e h
  refine ⟨_, DPut.k h7 (k := kS x) (Nat.lt_of_le_of_lt (Nat.le_trans h8 hn) (by decide)), ?_, ?_, ?_, ⟨kt, ?_, by omega, fun b d hbd => ?_⟩, ⟨_, upd_same, Nat.le_trans (length_putK _ _ _) (by omega), fun b hb => ?_⟩⟩
  · exact Ex.dropN hes h1 e
  · exact h2.ex e (by simp only [List.mem_singleton]; intro w; rw [← w, hq] at h7; cases h7)
  · exact e.get (by simp only [List.mem_singleton]; intro w; rw [w, h7] at h3; cases h3) h3
  · exact e.get (by simp only [List.mem_singleton]; intro w; rw [w, h7] at h4; cases h4) h4
  · obtain ⟨z', p', z1, z2, z3⟩ := h6 b d hbd
    exact ⟨z', p', z1, keep z2, z3⟩
  · by_cases hk : b = x
    · subst hk
      exact ⟨(y, z), p, by rw [valV_put, if_pos rfl], keep hp, hy, hz⟩
    · obtain ⟨z', p', z1, z2, z3⟩ := h9 b (hb.resolve_right hk)
      refine ⟨z', p', ?_, keep z2, z3⟩
      rw [valV_put, if_neg (fun w => hk (kS_inj w)), z1]
theorem MSt.weak {D' : List Nat → Nat → Prop} {D2' : List Nat → Prop} {n' : Nat} (m : MSt K H0 a po ss es st D D2 n H) (h1 : ∀ b c, D' b c → D b c) (h2 : ∀ b, D2' b → D2 b) (h3 : n ≤ n') : MSt K H0 a po ss es st D' D2' n' H := by
  obtain ⟨z1, z2, z3, ⟨kt, h4, h5, h6⟩, ⟨ke, h7, h8, h9⟩⟩ := m
  exact ⟨z1, z2, z3, ⟨kt, h4, by omega, fun b c d => h6 b c (h1 b c d)⟩, ⟨ke, h7, by omega, fun b d => h9 b (h2 b d)⟩⟩
end
theorem Ex.freeP {a b : Addr} (hp : PoolAt H' a) (e : Ex [a] H H') (h : H' b = none) : H b = none := by
  cases hh : H b with
  | none => rfl
  | some o =>
    rw [e b o (by simp only [List.mem_singleton]; intro w; exact hp.there (w ▸ h)) hh] at h
    cases h
theorem filter_sub {l : List (List Nat)} : ∀ {m : List (List Nat)}, m.Sublist l → l.Nodup → l.filter (fun a => decide (a ∈ m)) = m := by
  intro m hs
  induction hs with
  | slnil => intro _; rfl
  | @cons l1 l2 b h ih =>
    intro hn
    obtain ⟨h1, h2⟩ := List.nodup_cons.mp hn
    rw [List.filter_cons_of_neg (by simpa using fun z => h1 (h.subset z))]
    exact ih h2
  | @cons_cons l1 l2 b h ih =>
    intro hn
    obtain ⟨h1, h2⟩ := List.nodup_cons.mp hn
    rw [List.filter_cons_of_pos (by simp)]
    have := ih h2
    rw [show l2.filter (fun a => decide (a ∈ b :: l1)) = l2.filter (fun a => decide (a ∈ l1)) from List.filter_congr fun a ha => by
      have : a ≠ b := fun z => h1 (z ▸ ha)
      simp [this], this]
theorem pure_law_model (h : sp_law_model K vs H Q E) : t_law_model K (E1 Q) (start ["_law_pool_here", "_law_abc", "_law_most", "_law_great", "_law_posts", "_law_steps", "_law_ends", "_law_post", "_law_mark", "_law_oks"] vs) H := by
  obtain ⟨a, s, m, g, rfl, hs, m1, m6, hp, k⟩ := h
  show t_law_model K (E1 Q) [some (.ref a), some (vS s), some (.int m), some (.bl g), none, none, none, none, none, none] H
  unfold t_law_model
  walk_at "go"
  rename_i r H1 r0 r1 e1 p1
  refine u_names (by omega) (by omega) p1 fun st po H2 hst hstl npo e2 p2 h2 => ?_
  walk_at "go"
  refine s_dnewT fun ss H3 nss e3 h3 => ?_
  walk_at "go"
  refine s_dnewK fun es H4 nes e4 h4 => ?_
  walk_at "go"
  have e02 : Ex [a] H H2 := e1.trans e2
  have hss : H ss = none := Ex.freeP p2 e02 nss
  have hes : H es = none := Ex.freeP p2 e02 (e3.free nes)
  have hpo : H po = none := Ex.freeP p1 e1 npo
  have hsl := hs.2.1
  have hst6 := hst.2.1
  have m0 : MSt K H a po ss es st (fun b c => b ∈ st.take 0 ∧ c ∈ s) (fun b => b ∈ st.take 0) 0 H4 := by
    have e24 := e3.trans e4
    exact ⟨e02.trans e24.wide, p2.ex e24 (by simp), e24.get0 h2, ⟨[], e4.get0 h3, by simp, fun b c d => by simp at d⟩, ⟨[], h4, by simp, fun b d => by simp at d⟩⟩
  clear e1 e2 e3 e4 p1 p2 h2 h3 h4 npo nss nes e02
  refine for_run (walk_list (xs := st.map vS)) (fun i σ G => ∃ x7 x8, σ = [some (.ref a), some (vS s), some (.int m), some (.bl g), some (.ref po), some (.ref ss), some (.ref es), x7, x8, none] ∧ MSt K H a po ss es st (fun b c => b ∈ st.take i ∧ c ∈ s) (fun b => b ∈ st.take i) (i * 10) G) ⟨none, none, rfl, m0⟩ (fun i σ G _ ⟨_, _, _, z⟩ => SqL.of z.po) ?_ ?_
  · rintro i x σ G G2 hi ⟨x7, x8, rfl, mi⟩ ⟨rfl, hx⟩
    rw [List.length_map] at hi
    rw [List.getElem?_map, List.getElem?_eq_getElem hi] at hx
    cases hx
    have hin : st[i] ∈ st := List.getElem_mem hi
    have htk : st.take (i + 1) = st.take i ++ [st[i]] := by rw [List.take_add_one, List.getElem?_eq_getElem hi]; rfl
    rw [htk]
    generalize st[i] = b at hin
    have val : ∀ {Q' : VK} {G : Hp} {D : List Nat → Nat → Prop} {D2 : List Nat → Prop} {n : Nat} {σ : St}, σ[0]? = some (some (.ref a)) → σ[4]? = some (some (.ref po)) → σ[3]? = some (some (.bl g)) → MSt K H a po ss es st D D2 n G → (∀ p y z G', Ex [a] G G' → MSt K H a po ss es st D D2 n G' → SqT K G' p [vS y, .int z] → y ∈ st → z.natAbs ≤ 2 ^ 200 → Q' (.ref p) G') →
        (tTup (tCons (tOp (rIxL K) (tVar 4) (tCall (sp_law_draw K) [] E0 (tCons (tVar 0) (tCons (tCB (rLenV K) (tCons (tVar 4) tNil)) tNil)))) (tCons (tCall (sp_law_amount K) [] E0 (tCons (tVar 0) (tCons (tVar 3) tNil))) tNil))) σ G Q' := by
      intro Q' G D D2 n σ s0 s4 s3 mg kq
      have hl : 0 < (st.map vS).length ∧ (st.map vS).length ≤ 6 := by rw [List.length_map]; exact ⟨hst.1, hst6⟩
      refine s_tup (s_cons (s_op (s_var s4 (s_call (s_cons (s_var s0 (s_cons (s_cb (s_cons (s_var s4 (s_nil (s_lenL (SqL.of mg.po) ?_))))))))))))
      refine s_nil ?_
      refine u_draw (by omega) (by omega) mg.pool fun r G1 r0 r1 e1 p1 => ?_
      have m1 := mg.draw e1 p1
      rw [List.length_map] at r1
      obtain ⟨y, hy⟩ : ∃ y, st[r.toNat]? = some y := ⟨_, List.getElem?_eq_getElem (by omega)⟩
      refine s_ixL (xs := st.map vS) (v := vS y) (SqL.of m1.po) (atI_of r0 (by rw [List.getElem?_map, hy]; rfl)) ?_
      refine s_cons (s_call (s_cons (s_var s0 (s_cons (s_var s3 (s_nil ?_))))))
      refine u_amount p1 fun z G2 hz e2 p2 => ?_
      have m2 := m1.draw e2 p2
      refine s_nil ?_
      refine s_alloc (by show 2 ≤ sizeLine; decide) fun p G3 np e3 h3 => ?_
      exact kq p y z G3 ((e1.trans e2).trans e3.wide) (m2.ex0 e3) (SqT.of h3) (List.mem_of_getElem? hy) hz
    refine s_gName ?_
    refine s_seq ?_
    refine s_for ?_
    walk_at "go"
    have wk := walk_str (z := S s)
    have hsz : (S s).cps.size = s.length := by simp [S]
    rw [hsz] at wk
    refine for_run wk (fun j σ G => ∃ x8, σ = [some (.ref a), some (vS s), some (.int m), some (.bl g), some (.ref po), some (.ref ss), some (.ref es), some (vS b), x8, none] ∧ MSt K H a po ss es st (fun b' c' => (b' ∈ st.take i ∧ c' ∈ s) ∨ (b' = b ∧ c' ∈ s.take j)) (fun b' => b' ∈ st.take i) (i * 10 + j) G) ⟨_, rfl, mi.weak (fun b' c' hh => hh.resolve_right fun w => by simp at w) (fun _ h => h) (by omega)⟩ (fun _ _ _ _ _ => trivial) ?_ ?_
    · rintro j y σ G3 G4 hj ⟨x8, rfl, mj⟩ ⟨rfl, c, hc, ev⟩
      have ev : y = vS [c] := ev
      subst ev
      have hc : s[j]? = some c := by simpa [S] using hc
      have ht1 : s.take (j + 1) = s.take j ++ [c] := by rw [List.take_add_one, hc]; rfl
      rw [ht1]
      refine s_gName ?_
      refine s_dput ?_
      refine val rfl rfl rfl mj fun p y z G5 e5 m5 hp5 hy hz => ?_
      walk_at "go"
      rename_i k0 G6 nk e6 h6
      obtain ⟨G7, d7, m7⟩ := (m5.ex0 e6).putT hss (by omega) h6 (e6.sqT (by simp) hp5) hy hz
      refine ⟨ss, G7, rfl, d7, _, rfl, m7.weak (fun b' c' hh => ?_) (fun _ h => h) (by omega)⟩
      rcases hh with hh | ⟨rfl, hh⟩
      · exact .inl (.inl hh)
      · rcases List.mem_append.mp hh with hh | hh
        · exact .inl (.inr ⟨rfl, hh⟩)
        · exact .inr ⟨rfl, List.mem_singleton.mp hh⟩
    · rintro σ G3 ⟨x8, rfl, mj⟩
      rw [List.take_length] at mj
      refine s_seq ?_
      refine s_dput ?_
      walk_at "go"
      rename_i p G5 np e5 h5
      obtain ⟨G7, d7, m7⟩ := (mj.ex0 e5).putE (x := b) hes (by omega) (SqT.of h5) hin (show (0 : Int).natAbs ≤ 2 ^ 200 by decide)
      refine ⟨es, G7, rfl, d7, ?_⟩
      have fin : ∀ {n : Nat} {G : Hp} {D2 : List Nat → Prop}, MSt K H a po ss es st (fun b' c' => (b' ∈ st.take i ∧ c' ∈ s) ∨ (b' = b ∧ c' ∈ s)) D2 n G → n ≤ i * 10 + 10 → (∀ b', b' ∈ st.take i ∨ b' = b → D2 b') → MSt K H a po ss es st (fun b' c' => b' ∈ st.take i ++ [b] ∧ c' ∈ s) (fun b' => b' ∈ st.take i ++ [b]) ((i + 1) * 10) G := fun mm hn hd => mm.weak (fun b' c' hh => by
          rcases List.mem_append.mp hh.1 with h | h
          · exact .inl ⟨h, hh.2⟩
          · exact .inr ⟨List.mem_singleton.mp h, hh.2⟩) (fun b' hh => by
          rcases List.mem_append.mp hh with h | h
          · exact hd b' (.inl h)
          · exact hd b' (.inr (List.mem_singleton.mp h))) (by omega)
      have p7 := m7.pool
      walk_at "go"
      rename_i r G8 r0 r1 e8 p8
      have m8 := m7.draw e8 p8
      refine s_2 (fun hr => ?_) (fun hr => ?_)
      · refine s_dput ?_
        refine val rfl rfl rfl m8 fun p y z G9 e9 m9 hp9 hy hz => ?_
        walk_at "go"
        obtain ⟨G10, d10, m10⟩ := m9.putE (x := b) hes (by omega) hp9 hy hz
        exact ⟨es, G10, rfl, d10, _, _, rfl, fin m10 (by omega) fun b' hb => .inl hb⟩
      · walk_at "go"
        exact ⟨_, _, rfl, fin m8 (by omega) fun b' hb => hb⟩
  · rintro σ G ⟨x7, x8, rfl, mi⟩
    rw [List.length_map, List.take_length] at mi
    have hpoa : po ≠ a := fun w => hp.there (w ▸ hpo)
    refine s_seq ?_
    refine s_asg ?_
    refine s_lc ?_
    refine s_iList ?_
    refine s_var rfl ?_
    refine s_iListA (xs := st.map vS) (SqL.of mi.po) ?_
    refine lc_subL mi.po hpoa (by simp) (by omega) mi.pool (fun x G1 R hx e1 p1 kr => ?_) fun D G1 ok hD e1 p1 hsub h1 => ?_
    · walk_at "go"
      rename_i r G2 r0 r1 e2 p2
      exact kr _ _ e2 p2
    have m1 := mi.draw e1 p1
    walk_at "go"
    rename_i q G2 nq e2 h2
    have m2 := m1.ex0 e2
    obtain ⟨kt, h4, h5, h6⟩ := m2.tb
    obtain ⟨ke, h7, h8, h9⟩ := m2.en
    have cT : ∀ b c, b ∈ st → c ∈ s → ∃ p, valV kt [kS b, kS [c]] = some (.ref p) ∧ SqT K G2 p [vS (Classical.epsilon fun z : List Nat × Int => ∃ p, valV kt [kS b, kS [c]] = some (.ref p) ∧ SqT K G2 p [vS z.1, .int z.2] ∧ z.1 ∈ st ∧ z.2.natAbs ≤ 2 ^ 200).1, .int (Classical.epsilon fun z : List Nat × Int => ∃ p, valV kt [kS b, kS [c]] = some (.ref p) ∧ SqT K G2 p [vS z.1, .int z.2] ∧ z.1 ∈ st ∧ z.2.natAbs ≤ 2 ^ 200).2] ∧ (Classical.epsilon fun z : List Nat × Int => ∃ p, valV kt [kS b, kS [c]] = some (.ref p) ∧ SqT K G2 p [vS z.1, .int z.2] ∧ z.1 ∈ st ∧ z.2.natAbs ≤ 2 ^ 200).1 ∈ st ∧ (Classical.epsilon fun z : List Nat × Int => ∃ p, valV kt [kS b, kS [c]] = some (.ref p) ∧ SqT K G2 p [vS z.1, .int z.2] ∧ z.1 ∈ st ∧ z.2.natAbs ≤ 2 ^ 200).2.natAbs ≤ 2 ^ 200 := fun b c hb hc => Classical.epsilon_spec (p := fun z : List Nat × Int => ∃ p, valV kt [kS b, kS [c]] = some (.ref p) ∧ SqT K G2 p [vS z.1, .int z.2] ∧ z.1 ∈ st ∧ z.2.natAbs ≤ 2 ^ 200) (h6 b c ⟨hb, hc⟩)
    have cE : ∀ b, b ∈ st → ∃ p, valV ke (kS b) = some (.ref p) ∧ SqT K G2 p [vS (Classical.epsilon fun z : List Nat × Int => ∃ p, valV ke (kS b) = some (.ref p) ∧ SqT K G2 p [vS z.1, .int z.2] ∧ z.1 ∈ st ∧ z.2.natAbs ≤ 2 ^ 200).1, .int (Classical.epsilon fun z : List Nat × Int => ∃ p, valV ke (kS b) = some (.ref p) ∧ SqT K G2 p [vS z.1, .int z.2] ∧ z.1 ∈ st ∧ z.2.natAbs ≤ 2 ^ 200).2] ∧ (Classical.epsilon fun z : List Nat × Int => ∃ p, valV ke (kS b) = some (.ref p) ∧ SqT K G2 p [vS z.1, .int z.2] ∧ z.1 ∈ st ∧ z.2.natAbs ≤ 2 ^ 200).1 ∈ st ∧ (Classical.epsilon fun z : List Nat × Int => ∃ p, valV ke (kS b) = some (.ref p) ∧ SqT K G2 p [vS z.1, .int z.2] ∧ z.1 ∈ st ∧ z.2.natAbs ≤ 2 ^ 200).2.natAbs ≤ 2 ^ 200 := fun b hb => Classical.epsilon_spec (p := fun z : List Nat × Int => ∃ p, valV ke (kS b) = some (.ref p) ∧ SqT K G2 p [vS z.1, .int z.2] ∧ z.1 ∈ st ∧ z.2.natAbs ≤ 2 ^ 200) (h9 b hb)
    have hsub2 : ∀ b ∈ ok, b ∈ st := fun b hb => hsub.subset hb
    refine k q ⟨s, st, fun b c => Classical.epsilon fun z : List Nat × Int => ∃ p, valV kt [kS b, kS [c]] = some (.ref p) ∧ SqT K G2 p [vS z.1, .int z.2] ∧ z.1 ∈ st ∧ z.2.natAbs ≤ 2 ^ 200, fun b => Classical.epsilon fun z : List Nat × Int => ∃ p, valV ke (kS b) = some (.ref p) ∧ SqT K G2 p [vS z.1, .int z.2] ∧ z.1 ∈ st ∧ z.2.natAbs ≤ 2 ^ 200, ok⟩ G2 ⟨⟨hs, hst, fun b hb c hc => ?_, fun b hb => ?_, hsub2⟩, ⟨fun b hb c hc => ?_, fun b hb => ?_⟩, filter_sub hsub hst.2.2.1⟩ rfl (by show ((st.length : Nat) : Int) ≤ m; omega) (Ex.freeP p1 m1.ex nq) m2.ex m2.pool ⟨po, ss, es, D, kt, ke, h2, m2.po, h4, fun b hb c hc => ?_, h7, fun b hb => ?_, e2.get0 h1⟩
    · obtain ⟨p, _, _, z, _⟩ := cT b c hb hc
      exact z
    · obtain ⟨p, _, _, z, _⟩ := cE b hb
      exact z
    · obtain ⟨p, _, _, _, z⟩ := cT b c hb hc
      exact z
    · obtain ⟨p, _, _, _, z⟩ := cE b hb
      exact z
    · obtain ⟨p, z1, z2, _, _⟩ := cT b c hb hc
      exact ⟨p, z1, z2⟩
    · obtain ⟨p, z1, z2, _, _⟩ := cE b hb
      exact ⟨p, z1, z2⟩
end
end WB
namespace WB
open PySem PySem.Spec PyProof.Rows L2
end WB
namespace WB
open PySem PySem.Spec PyProof.Rows L2
section
variable {K : PySem.W.Frag} {H H' : Hp} {Q : VK} {E : XK} {a p q x : Addr} {M : LM} {σ : St}
theorem Dd.dp : ∀ (n : Nat) (v : V) (d : PyData), Dd K H n v d → Dp K H v d
  | 0, _, _, h => Scal.dp h
  | n + 1, v, d, h => by
    rcases h with h | ⟨a, xs, ds, rfl, rfl, h1, hn, hl, h2⟩ | ⟨a, xs, ds, rfl, rfl, h1, hn, hl, h2⟩
    · exact Scal.dp h
    · exact .tup h1 (dpAll_of xs ds hl fun i x e hx he => Dd.dp n x e (h2 i x e hx he))
    · exact .lst (SqL.of h1) (dpAll_of xs ds hl fun i x e hx he => Dd.dp n x e (h2 i x e hx he))
theorem Dd.shape : ∀ (n : Nat) (v : V) (d : PyData), Dd K H n v d → PyData.canLay0 d = true ∧ PyData.depth d ≤ n
  | 0, v, d, h => by
    obtain ⟨h1, h2⟩ := scal_shape h
    exact ⟨h1, by omega⟩
  | n + 1, v, d, h => by
    have parts : ∀ (xs : List V) (ds : List PyData), ds.length = xs.length → (∀ (i : Nat) x e, xs[i]? = some x → ds[i]? = some e → Dd K H n x e) → ∀ e ∈ ds, PyData.canLay0 e = true ∧ PyData.depth e ≤ n := fun xs ds hl h e he => by
      obtain ⟨i, hi⟩ := mem_get he
      have hlt : i < xs.length := by
        have := (List.getElem?_eq_some_iff.mp hi).1
        omega
      exact Dd.shape n xs[i] e (h i xs[i] e (List.getElem?_eq_getElem hlt) hi)
    rcases h with h | ⟨a, xs, ds, rfl, rfl, h1, hn, hl, h2⟩ | ⟨a, xs, ds, rfl, rfl, h1, hn, hl, h2⟩
    · obtain ⟨h1, h2⟩ := scal_shape h
      exact ⟨h1, by omega⟩
    · have pp := parts xs ds hl h2
      refine ⟨by rw [PyData.canLay0]; exact lay_all fun e he => (pp e he).1, ?_⟩
      rw [PyData.depth]
      have := dep_all (m := n) fun e he => (pp e he).2
      omega
    · have pp := parts xs ds hl h2
      refine ⟨by rw [PyData.canLay0]; exact lay_all fun e he => (pp e he).1, ?_⟩
      rw [PyData.depth]
      have := dep_all (m := n) fun e he => (pp e he).2
      omega
theorem Dd.shaped {n : Nat} {v : V} {d : PyData} (hn : n ≤ 20) (h : Dd K H n v d) : SeqAt.shaped d = true := by
  obtain ⟨h1, h2⟩ := Dd.shape n v d h
  unfold SeqAt.shaped
  exact Bool.and_eq_true_iff.mpr ⟨h1, decide_eq_true (by omega)⟩
theorem Fr.ex0 {F : Addr → Prop} {n : Nat} {v : V} {d : PyData} (e : Ex [] H H') (h : Fr F H n v d) : Fr F H' n v d := Fr.mono (fun _ h => h) (fun _ _ _ h => e.get0 h) _ _ _ h
def scD : V → PyData
  | .bl b => .bool b
  | .int i => .int i
  | .str s => .str s
  | _ => .none
theorem sc_int (i : Int) : Scal (.int i) (scD (.int i)) := .inr (.inr (.inl ⟨i, rfl, rfl⟩))
theorem sc_S {l : List Nat} (h : plain l) : Scal (vS l) (scD (vS l)) := .inr (.inr (.inr ⟨l, h, rfl, rfl⟩))
theorem dd_scal {n : Nat} {v : V} {d : PyData} (h : Scal v d) : Dd K H n v d := by
  cases n with
  | zero => exact h
  | succ n => exact .inl h
theorem dd_tup1 {n : Nat} {l : List V} (h : SqT K H p l) (hl : l.length ≤ 1000) (hs : ∀ v ∈ l, Scal v (scD v)) : Dd K H (n + 1) (.ref p) (.tuple (l.map scD)) := by
  refine .inr (.inl ⟨p, l, _, rfl, rfl, h, hl, by simp, fun i y e h1 h2 => ?_⟩)
  rw [List.getElem?_map, h1] at h2
  cases h2
  exact dd_scal (hs y (List.mem_of_getElem? h1))
theorem dd_tups {n : Nat} {ls : List (List V)} (h : TupsAt K H p ls) (hl : ls.length ≤ 1000) (hs : ∀ l ∈ ls, l.length ≤ 1000 ∧ ∀ v ∈ l, Scal v (scD v)) : Dd K H (n + 2) (.ref p) (.tuple (ls.map fun l => .tuple (l.map scD))) := by
  obtain ⟨xs, h1, h2, h3⟩ := h
  refine .inr (.inl ⟨p, xs, _, rfl, rfl, h1, by omega, by simp [h2], fun i y e z1 z2 => ?_⟩)
  rw [List.getElem?_map] at z2
  obtain ⟨l, z3, rfl⟩ := Option.map_eq_some_iff.mp z2
  obtain ⟨r, rfl, z4⟩ := h3 i y l z1 z3
  have := hs l (List.mem_of_getElem? z3)
  exact dd_tup1 z4 this.1 this.2
theorem plain_ab {s : List Nat} (h : goodS s) : plain s := fun c hc => let_plain (isWord_in h.1 c hc)
theorem plain_in {s : List Nat} {c : Nat} (h : goodS s) (hc : c ∈ s) : plain [c] := fun d hd => by rw [List.mem_singleton.mp hd]; exact plain_ab h c hc
theorem plain_st (g : GoodM M) {b : List Nat} (h : b ∈ M.st) : plain b := name_plain (g.st.2.2.2 b h)
theorem TupsAt.take {ls : List (List V)} {i : Nat} {xs : List V} (h2 : Tups K H xs ls) (h : SqT K H q (xs.take i)) : TupsAt K H q (ls.take i) := by
  refine ⟨_, h, by simp [h2.1], fun j y l h3 h4 => ?_⟩
  by_cases hj : j < i
  · rw [List.getElem?_take_of_lt hj] at h3 h4
    exact h2.2 j y l h3 h4
  · rw [List.getElem?_take_eq_none (by omega)] at h3
    cases h3
theorem atI_last {α : Type} {l : List α} {v : α} (h : l[l.length - 1]? = some v) : atI l (-1) = some v := by
  have hl := (List.getElem?_eq_some_iff.mp h).1
  unfold atI ixN
  rw [if_neg (by decide), if_pos (by omega)]
  show l[((-1 : Int) + (l.length : Int)).toNat]? = _
  rw [show ((-1 : Int) + (l.length : Int)).toNat = l.length - 1 by omega]
  exact h
end
end WB
namespace WB
open PySem PySem.Spec PyProof.Rows L2
def rTupS : List V → Hp → VK → Prop := fun xs H Q => ∃ l : List Nat, xs = [vS l] ∧ l.length ≤ 100000 ∧ ∀ p, H p = none → Q (.ref p) (upd H p (.tup (l.map fun c => vS [c])))
theorem call_tupS {X : Cx} (hc : X.calm = true) : CallR X (.type "tuple") rTupS := by
  intro pins s σ H xs us Q I r h
  obtain ⟨l, rfl, hz, q⟩ := h
  obtain ⟨u, rfl, t, rfl⟩ := vals1 r
  have hs : (S l).cps.size = l.length := by simp [S]
  have hz' : l.length ≤ sizeLine := Nat.le_trans hz (by decide)
  refine PySem.call_tuple_str (I.ok.hd hc) (S l) t (fun h' tk acc hk hacc => ?_) (by rw [hs]; exact hz')
  have I2 : Inv X pins σ H { s with heap := h', toks := tk } := I.kept hk
  refine ⟨.ref h'.objs.size, upd H h'.objs.size (.tup (l.map fun c => vS [c])), I2.laid (t' := tk) (fun c o e => Heap.get?_push_of_some _ e) (Nat.le_refl _) (show ObjOk X.prog X.w _ _ _ (.tup (l.map fun c => vS [c])) from ⟨?_, acc.toList, ?_, ?_⟩), rfl, q _ (I2.hok.fresh (Nat.le_refl _))⟩
  · rw [List.length_map]; exact hz'
  · have el : acc.toList.length = acc.size := by simp
    refine vals_of_at (by rw [List.length_map, el, hacc.1, hs]) fun j x w h1 h2 => ?_
    obtain ⟨c, u, hcu, rfl⟩ := hacc.2 j w (by rw [← Array.getElem?_toList]; exact h2)
    have hcu : l[j]? = some c := by simpa [S] using hcu
    rw [List.getElem?_map, hcu] at h1
    cases h1
    exact ⟨u, rfl⟩
  · rw [Array.toArray_toList]; exact IsTup.new _ _
theorem s_tupS {l : List Nat} {H : Hp} {Q : VK} (hl : l.length ≤ 100000) (k : ∀ p H', H p = none → Ex [] H H' → H' p = some (.tup (l.map fun c => vS [c])) → Q (.ref p) H') : rTupS [vS l] H Q := ⟨l, rfl, hl, fun p hp => k p _ hp (Ex.new hp) upd_same⟩
end WB
namespace WB
open PySem PySem.Spec PyProof.Rows L2 LamX
inductive F2 {α β : Type} (P : α → β → Prop) : List α → List β → Prop
  | nil : F2 P [] []
  | cons {x : α} {y : β} {xs : List α} {ys : List β} (h : P x y) (r : F2 P xs ys) : F2 P (x :: xs) (y :: ys)
def ExN (m : List Addr) (H H' : Hp) : Prop := ∀ b o, b ∉ m → H b = some o → (∀ ps, o ≠ .tbl ps) → H' b = some o
section
variable {K : PySem.W.Frag} {H H' H1 H2 : Hp} {Q : VK} {E : XK} {a q x : Addr} {m : List Addr} {M : LM} {T : List (Addr × Str)}
theorem ExN.refl : ExN m H H := fun _ _ _ h _ => h
theorem ExN.trans (e : ExN m H H1) (e2 : ExN m H1 H2) : ExN m H H2 := fun b o n h z => e2 b o n (e b o n h z) z
theorem ExN.of (e : Ex m H H') : ExN m H H' := fun b o n h _ => e b o n h
theorem ExN.of0 (e : Ex [] H H') : ExN m H H' := fun b o _ h _ => e b o (by simp) h
theorem ExN.ofT (e : ExtN H H') : ExN m H H' := fun b o _ h z => e b o h z
theorem rd_extN {u : HO} (hu : ∀ ps, u ≠ .tbl ps) (e : ExtN H H') (h : Rd H a u) : Rd H' a u := by
  rcases h with h | ⟨o, h⟩
  · exact .inl (e _ _ h hu)
  · exact .inr ⟨o, e _ _ h fun _ z => by cases z⟩
theorem sqT_extN {xs : List V} (e : ExtN H H') (h : SqT K H a xs) : SqT K H' a xs := by
  rcases h with h | h
  · exact .inl (rd_extN (fun _ z => by cases z) e h)
  · exact .inr h
theorem sqL_exN {xs : List V} (e : ExN m H H') (n : a ∉ m) (h : SqL K H a xs) : SqL K H' a xs := by
  rcases h with (h | ⟨o, h⟩) | h
  · exact .inl (.inl (e _ _ n h fun _ z => by cases z))
  · exact .inl (.inr ⟨o, e _ _ n h fun _ z => by cases z⟩)
  · exact .inr h
theorem LoopAt.extN (e : ExtN H H') (h : LoopAt K H x M) : LoopAt K H' x M := by
  obtain ⟨dx, o, tt, te, tm, kt, ke, h1, h2, h3, h4, h5, h6, h7⟩ := h
  refine ⟨dx, o, tt, te, tm, kt, ke, e _ _ h1 (fun _ z => by cases z), sqT_extN e h2, e _ _ h3 (fun _ z => by cases z), fun a ha c hc => ?_, e _ _ h5 (fun _ z => by cases z), fun a ha => ?_, sqT_extN e h7⟩
  · obtain ⟨p, z1, z2⟩ := h4 a ha c hc
    exact ⟨p, z1, sqT_extN e z2⟩
  · obtain ⟨p, z1, z2⟩ := h6 a ha
    exact ⟨p, z1, sqT_extN e z2⟩
theorem MAt.extN (e : ExtN H H') (h : MAt K H q M) : MAt K H' q M := by
  obtain ⟨po, ss, es, oo, kt, ke, h1, h2, h3, h4, h5, h6, h7⟩ := h
  refine ⟨po, ss, es, oo, kt, ke, e _ _ h1 (fun _ z => by cases z), e _ _ h2 (fun _ z => by cases z), e _ _ h3 (fun _ z => by cases z), fun a ha c hc => ?_, e _ _ h5 (fun _ z => by cases z), fun a ha => ?_, e _ _ h7 (fun _ z => by cases z)⟩
  · obtain ⟨p, z1, z2⟩ := h4 a ha c hc
    exact ⟨p, z1, sqT_extN e z2⟩
  · obtain ⟨p, z1, z2⟩ := h6 a ha
    exact ⟨p, z1, sqT_extN e z2⟩
theorem Fr.extN {F : Addr → Prop} {n : Nat} {v : V} {d : PyData} (e : ExtN H H') (h : Fr F H n v d) : Fr F H' n v d := Fr.mono (fun _ h => h) (fun a xs _ h => e _ _ h fun _ z => by cases z) _ _ _ h
theorem Tabs.ex0 (e : Ex [] H H') (h : Tabs T H) : Tabs T H' := h.ext fun b o hb => e b o (by simp) hb
theorem Tabs.exP (hp : PoolAt H a) (e : Ex [a] H H') (h : Tabs T H) : Tabs T H' := fun p hp' => by
  obtain ⟨ps, h1, h2, h3⟩ := h p hp'
  obtain ⟨x, y, z, hp⟩ := hp
  refine ⟨ps, e _ _ (fun w => ?_) h1, h2, fun pos cv hc => ?_⟩
  · rw [List.mem_singleton.mp w, hp] at h1
    cases h1
  · obtain ⟨c, e1, e2⟩ := h3 pos cv hc
    refine ⟨c, e1, e _ _ (fun w => ?_) e2⟩
    rw [List.mem_singleton.mp w, hp] at e2
    unfold CodeO at e2
    cases e2
structure ValD (K : PySem.W.Frag) (m : List Addr) (H : Hp) (v : V) (d : PyData) : Prop where
  dx : ∀ H', ExN m H H' → Dx K H' 5 v d
  str : (∃ l, v = vS l ∧ l.length ≤ 10000 ∧ plain l) ∨ ∃ n, n ≠ "str" ∧ ∀ H', ExN m H H' → Kd K H' v n
  int : (∃ i : Int, v = .int i ∧ i.natAbs ≤ 10 ^ 38) ∨ ∃ n, n ≠ "int" ∧ ∀ H', ExN m H H' → Kd K H' v n
theorem ValD.ex {v : V} {d : PyData} (e : ExN m H H') (h : ValD K m H v d) : ValD K m H' v d :=
  ⟨fun H2 e2 => h.dx H2 (e.trans e2), h.str.imp (fun z => z) fun ⟨n, h1, h2⟩ => ⟨n, h1, fun H2 e2 => h2 H2 (e.trans e2)⟩, h.int.imp (fun z => z) fun ⟨n, h1, h2⟩ => ⟨n, h1, fun H2 e2 => h2 H2 (e.trans e2)⟩⟩
theorem ValD.int_ (i : Int) (h : i.natAbs ≤ 10 ^ 38) : ValD K m H (.int i) (.int i) :=
  ⟨fun _ _ => .inl (.inr (.inr (.inl ⟨i, rfl, rfl⟩))), .inr ⟨"int", by decide, fun _ _ => .int⟩, .inl ⟨i, rfl, h⟩⟩
theorem ValD.str_ (l : List Nat) (hl : l.length ≤ 10000) (h : plain l) : ValD K m H (vS l) (dS l) :=
  ⟨fun _ _ => .inl (.inr (.inr (.inr ⟨l, h, rfl, rfl⟩))), .inl ⟨l, rfl, hl, h⟩, .inr ⟨"str", by decide, fun _ _ => .str⟩⟩
theorem ValD.of {v : V} {d : PyData} {n : String} (h1 : n ≠ "str") (h2 : n ≠ "int") (h : ∀ H', ExN m H H' → Dx K H' 5 v d ∧ Kd K H' v n) : ValD K m H v d :=
  ⟨fun H' e => (h H' e).1, .inr ⟨n, h1, fun H' e => (h H' e).2⟩, .inr ⟨n, h2, fun H' e => (h H' e).2⟩⟩
theorem dd_pair {n : Nat} {xs : List V} {ds : List PyData} (P : V → PyData → Prop) (h : F2 P xs ds) : ds.length = xs.length ∧ ∀ (i : Nat) x e, xs[i]? = some x → ds[i]? = some e → P x e := by
  induction h with
  | nil => exact ⟨rfl, fun i x e h => by cases i <;> cases h⟩
  | cons h1 h2 ih =>
    refine ⟨by simp [ih.1], fun i x e hx he => ?_⟩
    cases i with
    | zero => cases hx; cases he; exact h1
    | succ i => exact ih.2 i x e hx he
theorem dx_scal {n : Nat} {v : V} {d : PyData} (h : Scal v d) : Dx K H n v d := by
  cases n with
  | zero => exact h
  | succ n => exact .inl h
theorem dd_scl {n : Nat} {v : V} {d : PyData} (h : Scal v d) : Dd K H n v d := by
  cases n with
  | zero => exact h
  | succ n => exact .inl h
theorem dx_tup {n : Nat} {xs : List V} {ds : List PyData} (h : SqT K H a xs) (hl : xs.length ≤ 1000) (hd : F2 (Dx K H n) xs ds) : Dx K H (n + 1) (.ref a) (.tuple ds) := by
  obtain ⟨h1, h2⟩ := dd_pair (n := n) _ hd
  exact .inr (.inl ⟨a, xs, ds, rfl, rfl, h, hl, h1, h2⟩)
theorem dx_lst {n : Nat} {xs : List V} {ds : List PyData} (h : H a = some (.lst xs)) (hl : xs.length ≤ 1000) (hd : F2 (Dx K H n) xs ds) : Dx K H (n + 1) (.ref a) (.list ds) := by
  obtain ⟨h1, h2⟩ := dd_pair (n := n) _ hd
  exact .inr (.inr (.inl ⟨a, xs, ds, rfl, rfl, h, hl, h1, h2⟩))
theorem scS {l : List Nat} (h : plain l) : Scal (vS l) (dS l) := .inr (.inr (.inr ⟨l, h, rfl, rfl⟩))
theorem scI {i : Int} : Scal (.int i) (.int i) := .inr (.inr (.inl ⟨i, rfl, rfl⟩))
theorem OddAt.val {v : V} (h : OddAt m H v) : ∃ d, ValD K m H v d := by
  cases h with
  | non => exact ⟨.none, .of (n := "NoneType") (by decide) (by decide) fun _ _ => ⟨dx_scal (.inl ⟨rfl, rfl⟩), .non⟩⟩
  | bl b => exact ⟨.bool b, .of (n := "bool") (by decide) (by decide) fun _ _ => ⟨dx_scal (.inr (.inl ⟨b, rfl, rfl⟩)), .bl⟩⟩
  | int i h => exact ⟨_, .int_ i h⟩
  | str l h => exact ⟨_, .str_ l (by have := oddS_len h; omega) (oddS_plain h)⟩
  | l0 n h => exact ⟨.list [], .of (n := "list") (by decide) (by decide) fun H' e => have h' := e _ _ n h (fun _ z => by cases z); ⟨dx_lst h' (by simp) .nil, .lst h'⟩⟩
  | l1 n h => exact ⟨.list [dS [97]], .of (n := "list") (by decide) (by decide) fun H' e => have h' := e _ _ n h (fun _ z => by cases z); ⟨dx_lst h' (by simp) (.cons (dx_scal (scS plain_a)) .nil), .lst h'⟩⟩
  | d0 n h => exact ⟨.dict [], .of (n := "dict") (by decide) (by decide) fun H' e => have h' := e _ _ n h (fun _ z => by cases z); ⟨.inr (.inr (.inr (.inl ⟨_, rfl, rfl, h'⟩))), .dict h'⟩⟩
  | d1 n h => exact ⟨.dict [(dS [97], .int 1)], .of (n := "dict") (by decide) (by decide) fun H' e => have h' := e _ _ n h (fun _ z => by cases z); ⟨.inr (.inr (.inr (.inr ⟨_, _, _, rfl, rfl, h', dd_scl scI⟩))), .dict h'⟩⟩
  | t0 n h => exact ⟨.tuple [], .of (n := "tuple") (by decide) (by decide) fun H' e => have h' := SqT.of (K := K) (e _ _ n h (fun _ z => by cases z)); ⟨dx_tup h' (by simp) .nil, .tup h'⟩⟩
  | t1 n h => exact ⟨.tuple [dS [97]], .of (n := "tuple") (by decide) (by decide) fun H' e => have h' := SqT.of (K := K) (e _ _ n h (fun _ z => by cases z)); ⟨dx_tup h' (by simp) (.cons (dx_scal (scS plain_a)) .nil), .tup h'⟩⟩
  | t2 n h => exact ⟨.tuple [.int 0, .int 1], .of (n := "tuple") (by decide) (by decide) fun H' e => have h' := SqT.of (K := K) (e _ _ n h (fun _ z => by cases z)); ⟨dx_tup h' (by simp) (.cons (dx_scal scI) (.cons (dx_scal scI) .nil)), .tup h'⟩⟩
  | @t3 a b c d e n nb nc nd ne h hb hc hd he =>
    refine ⟨.tuple [.list [], .dict [(dS [97], .tuple [.int 1, .list []])]], .of (n := "tuple") (by decide) (by decide) fun H' ex => ?_⟩
    have h' := SqT.of (K := K) (ex _ _ n h (fun _ z => by cases z))
    have hb' := ex _ _ nb hb (fun _ z => by cases z)
    have hc' := ex _ _ nc hc (fun _ z => by cases z)
    have hd' := ex _ _ nd hd (fun _ z => by cases z)
    have he' := ex _ _ ne he (fun _ z => by cases z)
    refine ⟨dx_tup h' (by simp) (.cons (dx_lst (n := 3) hb' (by simp) .nil) (.cons (.inr (.inr (.inr (.inr ⟨c, _, _, rfl, rfl, hc', ?_⟩)))) .nil)), .tup h'⟩
    refine .inr (.inl ⟨d, _, _, rfl, rfl, SqT.of hd', by simp, rfl, fun i x y hx hy => ?_⟩)
    match i, hx, hy with
    | 0, hx, hy => cases hx; cases hy; exact dd_scl scI
    | 1, hx, hy => cases hx; cases hy; exact .inr (.inr ⟨e, [], [], rfl, rfl, he', by simp, rfl, fun i x y hx => by cases i <;> cases hx⟩)
theorem ValD.signs {l : List Nat} (n : a ∉ m) (h : H a = some (.tup (l.map fun c => vS [c]))) (hl : l.length ≤ 1000) (hp : plain l) : ValD K m H (.ref a) (.tuple (l.map fun c => dS [c])) := by
  refine .of (n := "tuple") (by decide) (by decide) fun H' e => ?_
  have h' := SqT.of (K := K) (e _ _ n h (fun _ z => by cases z))
  refine ⟨dx_tup h' (by simpa using hl) ?_, .tup h'⟩
  clear h h' hl
  induction l with
  | nil => exact .nil
  | cons c l ih =>
    refine .cons (dx_scal (scS fun z hz => hp z (by rw [List.mem_singleton.mp hz]; exact List.mem_cons_self))) (ih fun z hz => hp z (List.mem_cons_of_mem _ hz))
end
end WB
namespace WB
open PySem PySem.Spec PyProof.Rows L2 LamX
def sWord : List Nat := [119, 111, 114, 100]
def tabs19 (K : PySem.W.Frag) : List (Addr × Str) := tabsOf K ["_law_right"]
def sp_law_wholeK (K : PySem.W.Frag) : Sp := fun vs H Q _ => ∃ (v : V) (n : String), vs = [v] ∧ Kd K H v n ∧ Q (.bl (decide (n = "int"))) H
def DueR (wo no : Prop) (w : List Nat) (dv dt : PyData) (W : List Nat) (d : PyData) : Prop := (¬ wo ∧ W = sWord ∧ d = dv) ∨ (wo ∧ ¬ no ∧ W = w ∧ d = dt) ∨ (wo ∧ no ∧ W = sNothing ∧ d = .none)
theorem DueR.uniq {wo no : Prop} {w W W' : List Nat} {dv dt d d' : PyData} (h : DueR wo no w dv dt W d) (h' : DueR wo no w dv dt W' d') : W = W' ∧ d = d' := by
  rcases h with ⟨h1, rfl, rfl⟩ | ⟨h1, h2, rfl, rfl⟩ | ⟨h1, h2, rfl, rfl⟩ <;> rcases h' with ⟨g1, rfl, rfl⟩ | ⟨g1, g2, rfl, rfl⟩ | ⟨g1, g2, rfl, rfl⟩ <;> first | exact ⟨rfl, rfl⟩ | contradiction
section
variable {K : PySem.W.Frag} {H : Hp} {Q : VK} {E : XK} {a x : Addr} {M : LM}
theorem fin_of {W : List Nat} {d : PyData} {v : V} {H0 : Hp} (e : Ex [] H0 H) (hd : Dx K H 5 v d) (k : ∀ p H', Ex [] H0 H' → Fr (fun _ => True) H' 12 (.ref p) (.list [dS W, faceX 5 d]) → Q (.ref p) H') : FinH K W v H Q :=
  ⟨d, hd, fun p H' _ e' f => k p H' (e.trans e') (Fr.mono (fun _ _ => True.intro) (fun _ _ _ h => h) _ _ _ f)⟩
end
end WB
namespace WB
open PySem PySem.Spec PyProof.Rows L2
end WB
namespace WB
open PySem PySem.Spec PyProof.Rows L2
inductive Chg where
  | row (a : List Nat) (c : Nat) (b : List Nat) (n : Int)
  | turn (a b : List Nat) (n : Int)
  | beg (a : List Nat)
section
variable {K : PySem.W.Frag} {H H' : Hp} {Q : VK} {E : XK} {x y c : Addr} {M M' : LM} {ch : Chg}
theorem s_catB {a b : Addr} {xs ys : List V} (h1 : SqT K H a xs) (h2 : SqT K H b ys) (hl : xs.length + ys.length ≤ 1000) (k : ∀ p H2, Ex [] H H2 → SqT K H2 p (xs ++ ys) → Q (.ref p) H2) : rCatA K (.ref a) (.ref b) H Q :=
  ⟨a, b, xs, ys, rfl, rfl, h1, h2, Nat.le_trans hl (by decide), fun e => k b H Ex.rfl (by rw [e]; exact h2), fun _ e => k a H Ex.rfl (by rw [e, List.append_nil]; exact h1), fun _ _ p hp => k p _ (Ex.new hp) (SqT.of upd_same)⟩
def Pl (v : V) : Prop := (∃ i, v = .int i) ∨ ∃ l, plain l ∧ v = vS l
theorem Pl.sc {v : V} (h : Pl v) : Scal v (scD v) := by
  rcases h with ⟨i, rfl⟩ | ⟨l, h, rfl⟩
  · exact sc_int _
  · exact sc_S h
theorem pl_tns {M : LM} (g : GoodM M) : ∀ l ∈ (tnsOf M).map tnV, ∀ v ∈ l, Pl v := fun l hl => by
  obtain ⟨tn, hr, rfl⟩ := List.mem_map.mp hl
  obtain ⟨b, hb, rfl⟩ := List.mem_map.mp hr
  intro v hv
  simp only [tnV, List.mem_cons, List.not_mem_nil, or_false] at hv
  rcases hv with rfl | rfl | rfl
  · exact .inr ⟨_, plain_st g hb, rfl⟩
  · exact .inr ⟨_, plain_st g (g.en b hb), rfl⟩
  · exact .inl ⟨_, rfl⟩
theorem lay_tup {l : List V} (h : ∀ v ∈ l, Pl v) : PyData.canLay0 (.tuple (l.map scD)) = true := by
  rw [PyData.canLay0]
  refine lay_all fun e he => ?_
  obtain ⟨v, hv, rfl⟩ := List.mem_map.mp he
  exact (scal_shape (h v hv).sc).1
end
end WB
namespace WB
open PySem PySem.Spec PyProof.Rows L2
open PySem.SeqAt
section
variable {A : Around} {s : Shared}
theorem dict_eq_declines_str (l : Addr) (es : Array DictEntry) (n : Nat) (dd : Option Addr) (sl : Array (Option Value)) (b : Str) (u : Tok) :
    Meets (Builtin.«dict.__eq__» ⟨[.ref l, .str b u], []⟩) (fun _ R s => s.heap.get? l = some { cls := .type "dict", dict := dd, data := .dict es n, slots := sl } ∧ R (.ok (.ret .notImplemented)) s) :=
  .of_wp fun prog w A R s h => by obtain ⟨hp, g, d, tk, os⟩ := s; obtain ⟨hl, h⟩ := h; have f1 := F.sub_str_dict; wp_walk using wpAny_loadPart' hl; exact ⟨_, rfl, h⟩
theorem str_eq_declines_dict (b : Str) (u : Tok) (l : Addr) (es : Array DictEntry) (n : Nat) (dd : Option Addr) (sl : Array (Option Value)) :
    Meets (Builtin.«str.__eq__» ⟨[.str b u, .ref l], []⟩) (fun _ R s => s.heap.get? l = some { cls := .type "dict", dict := dd, data := .dict es n, slots := sl } ∧ R (.ok (.ret .notImplemented)) s) :=
  .of_wp fun prog w A R s h => by obtain ⟨hp, g, d, tk, os⟩ := s; obtain ⟨hl, h⟩ := h; wp_walk using wpAny_loadPart' hl, wpAny_load hl; exact ⟨_, rfl, h⟩
def IsDictO (h : Heap) (l : Addr) : Prop := ∃ es n dd sl, h.get? l = some { cls := .type "dict", dict := dd, data := .dict es n, slots := sl }
theorem RcAt.dict_str {l : Addr} (b : Str) (u : Tok) (hl : IsDictO s.heap l) (hu : A.units < cLine) : RcAt A s (.ref l) (.str b u) false := fun prog w E Q h => by
  obtain ⟨es, n, dd, sl, ho⟩ := hl
  exact rc_eq_decline_or (k := false) ⟨_, ho, rfl⟩ (typeIs_str s b u) (by decide) F.sub_str_dict F.slot_dict_eq F.slot_str_eq_refl
    (fun _ hq => call_meets F.slot_dict_eq ⟨_, ho, rfl⟩ F.entry_dict_eq (F.args_dict_eq_2 _ _) (dict_eq_declines_str l es n dd sl b u) ⟨ho, hq⟩)
    (fun _ hq => call_meets F.slot_str_eq_refl (typeIs_str s b u) F.entry_str_eq (F.args_str_eq_2 _ _) (str_eq_declines_dict b u l es n dd sl) ⟨ho, hq⟩)
    (fun _ hq => wpAny_of_eq (rfl : isSame (.ref l) (.str b u) = pure false) hq) (.inr hu) h
theorem RcAt.str_dict {l : Addr} (b : Str) (u : Tok) (hl : IsDictO s.heap l) (hu : A.units < cLine) : RcAt A s (.str b u) (.ref l) false := fun prog w E Q h => by
  obtain ⟨es, n, dd, sl, ho⟩ := hl
  exact rc_eq_decline_or (k := false) (typeIs_str s b u) ⟨_, ho, rfl⟩ (by decide) F.sub_dict_str F.slot_str_eq F.slot_dict_eq_refl
    (fun _ hq => call_meets F.slot_str_eq (typeIs_str s b u) F.entry_str_eq (F.args_str_eq_2 _ _) (str_eq_declines_dict b u l es n dd sl) ⟨ho, hq⟩)
    (fun _ hq => call_meets F.slot_dict_eq_refl ⟨_, ho, rfl⟩ F.entry_dict_eq (F.args_dict_eq_2 _ _) (dict_eq_declines_str l es n dd sl b u) ⟨ho, hq⟩)
    (fun _ hq => wpAny_of_eq (rfl : isSame (.str b u) (.ref l) = pure false) hq) (.inr hu) h
theorem EqAt.str_dict {l : Addr} (b : Str) (u : Tok) (hl : IsDictO s.heap l) (hu : A.units < cLine) : EqAt A s (.str b u) (.ref l) false := fun prog w E Q h => by
  unfold eqBool
  refine wpAny_holding ?_
  refine wpAny_ite_split (fun hab => absurd (eq_of_beq hab) nofun) (fun _ => ?_)
  exact wpAny_bind (RcAt.str_dict b u hl hu prog w E _ (wpAny_truthy_bool h))
end
inductive OthK (K : PySem.W.Frag) (H : Hp) : V → Prop where
  | non : OthK K H .non
  | bl (b : Bool) : OthK K H (.bl b)
  | int (i : Int) : OthK K H (.int i)
  | lst {a : Addr} {xs : List V} (h : H a = some (.lst xs)) : OthK K H (.ref a)
  | tup {a : Addr} {xs : List V} (h : SqT K H a xs) : OthK K H (.ref a)
  | dict {a : Addr} {kvs : List (Key × V)} (h : H a = some (.dK kvs)) : OthK K H (.ref a)
section
variable {X : Cx}
theorem dictO_of {pins : List (Addr × Obj)} {σ : L2.St} {H : Hp} {s : Shared} {a : Addr} {kvs : List (Key × V)} (I : Inv X pins σ H s) (h : H a = some (.dK kvs)) : IsDictO s.heap a := by
  obtain ⟨_, _, vs, _, hd⟩ := (show ObjOk X.prog X.w H s.heap a (.dK kvs) from I.hok a _ h)
  obtain ⟨⟨c, d, dt, sl⟩, es, ep, h1, h2, h3, h4⟩ := hd
  have e1 : c = .type "dict" := h2.1
  have e2 : dt = .dict es ep := h3
  subst e1 e2
  exact ⟨es, ep, d, sl, h1⟩
theorem oth_eq {A : Around} {pins : List (Addr × Obj)} {σ : L2.St} {H : Hp} {s : Shared} {x : V} {u : Value} {b : Str} {t : Tok} (hu : A.units < cLine) (I : Inv X pins σ H s) (r : RelV x u) (h : OthK X.K H x) : RcAt A s u (.str b t) false ∧ EqAt A s (.str b t) u false := by
  cases h with
  | non => cases (show u = Value.none from r); exact ⟨RcAt.none_str b t, EqAt.str_none b t⟩
  | bl c => cases (show u = Value.bool c from r); exact ⟨RcAt.bool_str c b t, EqAt.str_bool b t c⟩
  | int i => obtain ⟨v, rfl⟩ := (show ∃ t, u = Value.int i t from r); exact ⟨RcAt.int_str i v b t, EqAt.str_int b t i v⟩
  | lst h =>
    cases r
    obtain ⟨its, rv, p, hz⟩ := I.list (SqL.of (K := X.K) h)
    exact ⟨RcAt.list_str b t p.isList hu, EqAt.str_list b t p.isList hu⟩
  | tup h =>
    cases r
    obtain ⟨its, rv, p, hz⟩ := I.tuple h
    exact ⟨RcAt.tuple_str b t p hu, EqAt.str_tuple b t p hu⟩
  | dict h =>
    cases r
    exact ⟨RcAt.dict_str b t (dictO_of I h) hu, EqAt.str_dict b t (dictO_of I h) hu⟩
def rInK (K : PySem.W.Frag) : R2 := fun x y H Q => ∃ (p : Addr) (ls : List Str), y = .ref p ∧ (SqL K H p (ls.map V.str) ∨ SqT K H p (ls.map V.str)) ∧ ((∃ a : Str, x = .str a ∧ Q (.bl (decide (a ∈ ls))) H) ∨ (OthK K H x ∧ Q (.bl false) H))
theorem vals_strs : ∀ {ls : List Str} {us : List Value}, Vals (ls.map V.str) us → ∀ w ∈ us, ∃ b t, w = .str b t
  | [], _, .nil => fun w h => by cases h
  | b :: ls, _, .cons r k => fun w h => by
    rcases List.mem_cons.mp h with rfl | h
    · obtain ⟨t, rfl⟩ := (show ∃ t, w = Value.str b t from r)
      exact ⟨b, t, rfl⟩
    · exact vals_strs k w h
theorem in_strs (a : Str) : ∀ ls : List Str, inV (.str a) (ls.map V.str) = decide (a ∈ ls)
  | [] => rfl
  | b :: ls => by
    have h := in_strs a ls
    unfold inV at h ⊢
    rw [List.map_cons, List.any_cons, h]
    have e : eqV (V.str b) (.str a) = decide (b = a) := by
      show (b == a) = decide (b = a)
      rfl
    rw [e]
    by_cases c : a = b
    · subst c; simp
    · simp [c, Ne.symm c]
theorem flat_strs (ls : List Str) : (ls.map V.str).all flatV = true := by
  rw [List.all_eq_true]
  intro x hx
  obtain ⟨b, _, rfl⟩ := List.mem_map.mp hx
  rfl
theorem op_inK (hu : X.A.units + 65 < cLine) : OpR X (compareOp .In) (rInK X.K) := by
  intro pins s σ H x y v u Q I rx ry h
  obtain ⟨p, ls, rfl, hq, ⟨a, rfl, q⟩ | ⟨ho, q⟩⟩ := h
  · exact op_in_seq pins s σ H (.str a) (.ref p) v u Q I rx ry ⟨p, ls.map V.str, rfl, hq, rfl, flat_strs ls, by rw [in_strs]; exact q⟩
  · cases ry
    have hu1 : X.A.in1.units < cLine := by show X.A.units + 1 < cLine; omega
    rcases hq with hq | hq
    · obtain ⟨its, r, pl, hz⟩ := I.list hq
      refine in_listAt (fun _ => false) pl.isList (fun w hw => ?_) ⟨.bl _, H, I, rfl, ?_⟩
      · obtain ⟨b, t, rfl⟩ := vals_strs r w (by simpa using hw)
        exact (oth_eq hu1 I rx ho).2
      · rw [show its.toArray.any (fun _ => false) = false by simp]
        exact q
    · obtain ⟨its, r, pl, hz⟩ := I.tuple hq
      refine in_tupleAt (fun _ => false) pl (fun w hw => ?_) ⟨.bl _, H, I, rfl, ?_⟩
      · obtain ⟨b, t, rfl⟩ := vals_strs r w (by simpa using hw)
        exact (oth_eq hu1 I rx ho).2
      · rw [show its.toArray.any (fun _ => false) = false by simp]
        exact q
end
end WB
namespace WB
open PySem PySem.Spec PyProof.Rows L2
section
variable {prog : Program} {w : World} {A : Around} {E : Value → Shared → Prop} {s : Shared}
theorem sliceApplied_rev {sl : Addr} {n : Nat} {u : Tok} {Q : Int × Int × Nat → Shared → Prop} (hs : s.heap.IsSliceOf sl .none .none (.int (-1) u)) (h : Q ((n : Int) - 1, -1, n) s) : wpAny (model prog w) A (Builtin.Slice.sliceApplied (.ref sl) (pure (n : Int))) Q E s := by
  obtain ⟨os, hos, hcs, hds⟩ := id hs
  unfold Builtin.Slice.sliceApplied Builtin.Slice.sliceFields
  refine wpAny_bind (wpAny_bind (wpAny_field hos hds (x := .none) rfl (wpAny_bind (wpAny_field hos hds (x := .none) rfl (wpAny_bind (wpAny_field hos hds (x := .int (-1) u) rfl (wpAny_pure ?_)))))))
  refine wpAny_bind (slicePart_int ?_)
  show wpAny _ _ (if ((-1 : Int) == 0) = true then _ else _) _ _ s
  rw [if_neg (by decide)]
  refine wpAny_bind (slicePart_none (wpAny_bind (slicePart_none (wpAny_bind (wpAny_pure ?_)))))
  show wpAny _ _ (match Builtin.Slice.sliceAdjust none none (-1) (n : Int) with | (lo, hi) => pure (lo, (-1 : Int), Builtin.Slice.slicePlaces lo hi (-1))) _ _ s
  have e : Builtin.Slice.sliceAdjust none none (-1) (n : Int) = ((n : Int) - 1, -1) := rfl
  rw [e]
  have e2 : Builtin.Slice.slicePlaces ((n : Int) - 1) (-1) (-1) = n := by
    unfold Builtin.Slice.slicePlaces
    rw [if_neg (by decide)]
    split
    · rw [show (-(-1 : Int)) = 1 by decide, Int.ediv_one]
      omega
    · omega
  show wpAny _ _ (pure ((n : Int) - 1, (-1 : Int), Builtin.Slice.slicePlaces ((n : Int) - 1) (-1) (-1))) _ _ s
  rw [e2]
  exact wpAny_pure h
theorem pick_rev (xs : Array Value) : ((List.range xs.size).filterMap fun (m : Nat) => xs[(((xs.size : Nat) : Int) - 1 + (m : Int) * -1).toNat]?).toArray = xs.toList.reverse.toArray := by
  congr 1
  have e2 : (List.range xs.size).map (fun m : Nat => (((xs.size : Nat) : Int) - 1 + (m : Int) * -1).toNat) = (List.range xs.size).reverse := by
    rw [← PySem.W.krv_range]
    refine List.map_congr_left fun m hm => ?_
    have := List.mem_range.mp hm
    omega
  have h := PySem.W.krv_all xs
  rw [← h, ← List.filterMap_reverse, ← e2, List.filterMap_map]
  rfl
theorem getItem_tuple_rev {t sl : Addr} {items : Array Value} {u : Tok} {Q : Value → Shared → Prop} (ht : IsTup s.heap t items) (hs : s.heap.IsSliceOf sl .none .none (.int (-1) u))
    (h : Q (.ref s.heap.objs.size) { s with heap := s.heap.push { cls := .type "tuple", data := .seq items.toList.reverse.toArray } }) (hsz : items.size ≤ sizeLine) : wpAny (model prog w) A (getItem (.ref t) (.ref sl)) Q E s := by
  have htake : sizeOk (.seq items.toList.reverse.toArray) := by
    show items.toList.reverse.toArray.size ≤ sizeLine
    rw [List.size_toArray, List.length_reverse, Array.length_toList]
    exact hsz
  obtain ⟨os, hos, hcs, hds⟩ := id hs
  have hTs : s.TypeIs (.ref sl) "slice" := ⟨os, hos, hcs⟩
  unfold getItem
  try with_reducible refine wpAny_holding ?_
  first | refine wpAny_bind (wpAny_pure ?_) | skip
  refine wpAny_bind (wpAny_sequenceKey ht.typeIs (by decide) ?_)
  refine wpAny_bind (wpAny_callSpecial?_slot (name := Str.ofString "__getitem__") ht.typeIs PyProof.Rows.slot_tuple_getitem
    (wpAny_call_entry PyProof.Rows.slot_tuple_getitem ht.typeIs entry_tuple_getitem ?_ (args_tuple_getitem _ _)))
  show wpAny _ _ (Builtin.Tuple.tupleItemsOf (.ref t) >>= _) _ _ s
  refine wpAny_bind (tupleItemsOf_ ht ?_)
  refine wpAny_bind (wpAny_typeOf hTs ?_)
  rw [if_pos (by decide)]
  refine wpAny_bind (sliceApplied_rev hs ?_)
  have hno : ¬ ((((items.size : Nat) : Int) - 1 == 0 && (-1 : Int) == 1 && items.size == items.size) = true) := by
    rw [show ((-1 : Int) == 1) = false by decide, Bool.and_false, Bool.false_and]
    exact Bool.false_ne_true
  show wpAny _ _ (if (((items.size : Nat) : Int) - 1 == 0 && (-1 : Int) == 1 && items.size == items.size) = true then _ else _) _ _ s
  rw [if_neg hno, pick_rev]
  first
    | exact wpAny_bind (m := Builtin.Tuple.tupleExact _) (wpAny_newObj_type (wpAny_pure ⟨_, rfl, wpAny_pure h⟩) htake)
    | exact wpAny_bind (m := Builtin.Tuple.tupleExact _) (wpAny_newObj_type (wpAny_bind (wpAny_pure (wpAny_pure ⟨_, rfl, wpAny_pure h⟩))) htake)
    | exact wpAny_bind (wpAny_bind (m := Builtin.Tuple.tupleExact _) (wpAny_newObj_type (wpAny_pure (wpAny_pure ⟨_, rfl, wpAny_pure h⟩)) htake))
    | exact wpAny_bind (wpAny_bind (m := Builtin.Tuple.tupleExact _) (wpAny_newObj_type (wpAny_pure ⟨_, rfl, wpAny_pure h⟩) htake))
end
def tRevA (K : PySem.W.Frag) (te : TE) : TE := fun σ H Q => te σ H fun x H1 => ∃ a xs, x = .ref a ∧ SqT K H1 a xs ∧ ∀ p, H1 p = none → Q (.ref p) (upd H1 p (.tup xs.reverse))
theorem pe_revA {X : Cx} {e : Expr} {te : TE} {k : Nat} {p1 p2 p3 pos : Pos} (he : PE X e te) : PE X (.Subscript e (.Slice none none (some (.UnaryOp .USub (.Constant (.int 1) k p1) p2)) p3) pos) (tRevA X.K te) := by
  refine ⟨fun pins s σ H Q I h => ?_⟩
  refine Subscript_ (thn (he.run pins s σ H _ I h) fun v s1 ⟨x, H1, I1, r1, q1⟩ => ?_)
  obtain ⟨a, xs, ex, hx, q⟩ := q1
  subst ex
  cases r1
  have hst : PO X (some (.UnaryOp .USub (.Constant (.int 1) k p1) p2)) (tPart (tUn (rU fun i => .int (-i)) (tC (.int 1)))) := po_some (pe_un un_neg pe_int)
  refine wpAny_Slice (thn (po_none.run pins s1 σ H1 (fun o H2 => o = none ∧ H2 = H1) I1 ⟨rfl, rfl⟩) fun vl s2 ⟨lo, H2, I2, pl, el, e2⟩ => ?_)
  subst el e2
  refine thn (po_none.run pins s2 σ H2 (fun o H3 => o = none ∧ H3 = H2) I2 ⟨rfl, rfl⟩) fun vu s3 ⟨u, H3, I3, pu, eu, e3⟩ => ?_
  subst eu e3
  refine thn (hst.run pins s3 σ H3 (fun o H4 => o = some (-1) ∧ H4 = H3) I3 ⟨1, rfl, -1, rfl, rfl, rfl⟩) fun vs s4 ⟨o, H4, I4, ps, eo, e4⟩ => ?_
  subst eo e4
  have I5 : Inv X pins σ H4 { s4 with heap := s4.heap.push { cls := .type "slice", data := .fields #[vl, vu, vs] } } := I4.kept (t' := s4.toks) fun b ob q => Heap.get?_push_of_some _ q
  obtain ⟨its, r, ht, hz⟩ := I5.tuple hx
  have hlen := r.length
  show wpAny (model X.prog X.w) X.A (subscriptTail e (.Slice none none (some (.UnaryOp .USub (.Constant (.int 1) k p1) p2)) p3) (.ref a) (.ref s4.heap.objs.size)) (EP X pins σ Q) X.xe { s4 with heap := s4.heap.push { cls := .type "slice", data := .fields #[vl, vu, vs] } }
  obtain ⟨l1, rfl, e1⟩ := IsPart.raw pl
  obtain ⟨u1, rfl, e2⟩ := IsPart.raw pu
  obtain ⟨t1, rfl, e3⟩ := IsPart.raw ps
  cases l1 with
  | some z => cases e1
  | none =>
  cases u1 with
  | some z => cases e2
  | none =>
  cases t1 with
  | none => cases e3
  | some z =>
  obtain ⟨zi, zt⟩ := z
  have ez : zi = -1 := by simpa using e3
  subst ez
  refine tail_any (ops := [.ref a, .ref s4.heap.objs.size]) ht.typeIs (PyProof.Rows.slot_tuple_getitem.lookup) ?_ (by with_unfolding_all rfl)
  refine getItem_tuple_rev (u := zt) ht (Heap.IsSliceOf.new _ _ _ _) ?_ (by rw [List.size_toArray]; omega)
  refine ⟨.ref _, _, I5.laid (t' := s4.toks) (o := .tup xs.reverse) (fun b ob q => Heap.get?_push_of_some _ q) (Nat.le_refl _) ?_, rfl, q _ (I5.hok.fresh (Nat.le_refl _))⟩
  exact ⟨by rw [List.length_reverse]; exact hz, _, r.reverse, IsTup.new _ _⟩
theorem s_revA {K : PySem.W.Frag} {σ : L2.St} {H : Hp} {Q : VK} {te : TE} (k : te σ H fun x H1 => ∃ a xs, x = .ref a ∧ SqT K H1 a xs ∧ ∀ p, H1 p = none → Q (.ref p) (upd H1 p (.tup xs.reverse))) : tRevA K te σ H Q := k
end WB
namespace WB
open PySem PySem.Spec PyProof.Rows L2
theorem lit_97 : ("a" : Str) = S [97] := by decide +kernel
theorem lit_97_98 : ("ab" : Str) = S [97, 98] := by decide +kernel
theorem lit_65 : ("A" : Str) = S [65] := by decide +kernel
theorem lit_97_32_98 : ("a b" : Str) = S [97, 32, 98] := by decide +kernel
theorem lit_97_97 : ("aa" : Str) = S [97, 97] := by decide +kernel
theorem lit_97_10 : ("a\n" : Str) = S [97, 10] := by decide +kernel
theorem lit_97_98_99_100_101 : ("abcde" : Str) = S [97, 98, 99, 100, 101] := by decide +kernel
end WB
namespace WB
open PySem PySem.Spec PyProof.Rows L2 LamX
def inSV (st : List (List Nat)) : V → Bool
  | .str y => decide (y.cps.toList ∈ st)
  | _ => false
def sgV (s : List Nat) : V → Bool
  | .str y => isWord y.cps.toList s && decide (y.cps.toList.length = 1)
  | _ => false
def intV : V → Bool
  | .int _ => true
  | _ => false
def stepV (s : List Nat) (st : List (List Nat)) : List V → Bool
  | [a, b, c, d] => sgV s b && (inSV st a && (inSV st c && intV d))
  | _ => false
def endV (st : List (List Nat)) : List V → Bool
  | [a, b, c] => inSV st a && (inSV st b && intV c)
  | _ => false
theorem inSV_S {st : List (List Nat)} {l : List Nat} : inSV st (vS l) = decide (l ∈ st) := rfl
theorem sgV_S {s l : List Nat} : sgV s (vS l) = (isWord l s && decide (l.length = 1)) := rfl
inductive ElK (K : PySem.W.Frag) (H : Hp) : V → Prop where
  | str (l : List Nat) (h : l.length ≤ 10000) : ElK K H (vS l)
  | oth {x : V} (h : OthK K H x) : ElK K H x
inductive ThK (K : PySem.W.Frag) (H : Hp) : V → Option (List V) → Prop where
  | tup {a : Addr} {xs : List V} (h : SqT K H a xs) (hl : xs.length ≤ 10) (he : ∀ x ∈ xs, ElK K H x) : ThK K H (.ref a) (some xs)
  | str (l : List Nat) : ThK K H (vS l) none
  | non : ThK K H .non none
  | bl (b : Bool) : ThK K H (.bl b) none
  | int (i : Int) : ThK K H (.int i) none
  | lst {a : Addr} {xs : List V} (h : H a = some (.lst xs)) : ThK K H (.ref a) none
  | dict {a : Addr} {kvs : List (Key × V)} (h : H a = some (.dK kvs)) : ThK K H (.ref a) none
section
variable {K : PySem.W.Frag} {H H' : Hp} {Q : VK} {E : XK} {x : V} {a : Addr}
theorem OthK.ex0 (e : Ex [] H H') : OthK K H x → OthK K H' x
  | .non => .non
  | .bl b => .bl b
  | .int i => .int i
  | .lst h => .lst (e.get0 h)
  | .tup h => .tup (e.sqT (by simp) h)
  | .dict h => .dict (e.get0 h)
theorem ElK.ex0 (e : Ex [] H H') : ElK K H x → ElK K H' x
  | .str l h => .str l h
  | .oth h => .oth (h.ex0 e)
theorem ThK.ex0 {d : Option (List V)} (e : Ex [] H H') : ThK K H x d → ThK K H' x d
  | .tup h hl he => .tup (e.sqT (by simp) h) hl fun y hy => (he y hy).ex0 e
  | .str l => .str l
  | .non => .non
  | .bl b => .bl b
  | .int i => .int i
  | .lst h => .lst (e.get0 h)
  | .dict h => .dict (e.get0 h)
theorem OthK.kd (h : OthK K H x) : ∃ n, n ≠ "str" ∧ Kd K H x n ∧ decide (n = "int") = intV x := by
  cases h with
  | non => exact ⟨_, by decide, .non, rfl⟩
  | bl b => exact ⟨_, by decide, .bl, rfl⟩
  | int i => exact ⟨_, by decide, .int, rfl⟩
  | lst h => exact ⟨_, by decide, .lst h, rfl⟩
  | tup h => exact ⟨_, by decide, .tup h, rfl⟩
  | dict h => exact ⟨_, by decide, .dict h, rfl⟩
theorem OthK.inS {st : List (List Nat)} (h : OthK K H x) : inSV st x = false := by cases h <;> rfl
theorem OthK.sg {s : List Nat} (h : OthK K H x) : sgV s x = false := by cases h <;> rfl
theorem ElK.kd (h : ElK K H x) : ∃ n, Kd K H x n ∧ decide (n = "int") = intV x := by
  cases h with
  | str l h => exact ⟨_, .str, rfl⟩
  | oth h => obtain ⟨n, _, h1, h2⟩ := h.kd; exact ⟨n, h1, h2⟩
theorem S_mem {l : List Nat} : ∀ {st : List (List Nat)}, S l ∈ st.map S ↔ l ∈ st := by
  intro st
  rw [List.mem_map]
  exact ⟨fun ⟨y, hy, e⟩ => by rw [← S_inj e]; exact hy, fun h => ⟨l, h, rfl⟩⟩
theorem s_inK {p : Addr} {st : List (List Nat)} (h : ElK K H x) (hp : SqL K H p (st.map vS) ∨ SqT K H p (st.map vS)) (k : Q (.bl (inSV st x)) H) : rInK K x (.ref p) H Q := by
  have e : st.map vS = (st.map S).map V.str := by rw [List.map_map]; rfl
  rw [e] at hp
  cases h with
  | str l h =>
    refine ⟨p, st.map S, rfl, hp, .inl ⟨_, rfl, ?_⟩⟩
    rw [decide_eq_decide.mpr S_mem]
    exact k
  | oth h =>
    rw [h.inS] at k
    exact ⟨p, st.map S, rfl, hp, .inr ⟨h, k⟩⟩
theorem u_intEl (h : ElK K H x) (k : Q (.bl (intV x)) H) : sp_is_integer K ([x] ++ []) H Q E := by
  obtain ⟨n, h1, h2⟩ := h.kd
  exact ⟨x, n, rfl, h1, by rw [h2]; exact k⟩
theorem u_wholeEl (h : ElK K H x) (k : Q (.bl (intV x)) H) : sp_law_wholeK K ([x] ++ []) H Q E := by
  obtain ⟨n, h1, h2⟩ := h.kd
  exact ⟨x, n, rfl, h1, by rw [h2]; exact k⟩
end
def stepO (s : List Nat) (st : List (List Nat)) : Option (List V) → Bool
  | some xs => stepV s st xs
  | none => false
def endO (st : List (List Nat)) : Option (List V) → Bool
  | some xs => endV st xs
  | none => false
def sp_is_stepA (K : PySem.W.Frag) : Sp := fun vs H Q _ => ∃ (v : V) (s : List Nat) (t : Addr), vs = [v, vS s, .ref t] ∧ ∃ (d : Option (List V)) (st : List (List Nat)), ThK K H v d ∧ SqT K H t (st.map vS) ∧ ∀ H', Ex [] H H' → Q (.bl (stepO s st d)) H'
def sp_is_turnA (K : PySem.W.Frag) : Sp := fun vs H Q _ => ∃ (v : V) (t : Addr), vs = [v, .ref t] ∧ ∃ (d : Option (List V)) (st : List (List Nat)), ThK K H v d ∧ SqT K H t (st.map vS) ∧ ∀ H', Ex [] H H' → Q (.bl (endO st d)) H'
def sp_law_is_step27 (K : PySem.W.Frag) : Sp := fun vs H Q _ => ∃ (v : V) (s : List Nat) (t : Addr), vs = [v, vS s, .ref t] ∧ ∃ (d : Option (List V)) (st : List (List Nat)), ThK K H v d ∧ (SqL K H t (st.map vS) ∨ SqT K H t (st.map vS)) ∧ s.length ≤ 4 ∧ Q (.bl (stepO s st d)) H
def sp_law_is_end27 (K : PySem.W.Frag) : Sp := fun vs H Q _ => ∃ (v : V) (t : Addr), vs = [v, .ref t] ∧ ∃ (d : Option (List V)) (st : List (List Nat)), ThK K H v d ∧ (SqL K H t (st.map vS) ∨ SqT K H t (st.map vS)) ∧ Q (.bl (endO st d)) H
theorem S_toList (y : Str) : S y.cps.toList = y := by cases y; simp [S]
theorem inSV_iff {st : List (List Nat)} {x : V} (h : inSV st x = true) : ∃ l ∈ st, x = vS l := by
  cases x with
  | str y =>
    have h : y.cps.toList ∈ st := of_decide_eq_true h
    exact ⟨_, h, by show V.str y = V.str (S _); rw [S_toList]⟩
  | _ => cases h
theorem sgV_iff {s : List Nat} {x : V} (h : sgV s x = true) : ∃ c ∈ s, x = vS [c] := by
  cases x with
  | str y =>
    obtain ⟨h1, h2⟩ := Bool.and_eq_true_iff.mp (show (isWord y.cps.toList s && decide (y.cps.toList.length = 1)) = true from h)
    have h2 := of_decide_eq_true h2
    obtain ⟨c, hc⟩ : ∃ c, y.cps.toList = [c] := by
      match y.cps.toList, h2 with
      | [c], _ => exact ⟨c, rfl⟩
    exact ⟨c, isWord_in h1 c (by rw [hc]; simp), by show V.str y = V.str (S [c]); rw [← hc, S_toList]⟩
  | _ => cases h
theorem intV_iff {x : V} (h : intV x = true) : ∃ i, x = .int i := by
  cases x with
  | int i => exact ⟨i, rfl⟩
  | _ => cases h
end WB
namespace WB
open PySem PySem.Spec PyProof.Rows L2
theorem lit_114_111_119 : ("row" : Str) = S [114, 111, 119] := by decide +kernel
theorem lit_116_117_114_110 : ("turn" : Str) = S [116, 117, 114, 110] := by decide +kernel
theorem lit_98_101_103_105_110 : ("begin" : Str) = S [98, 101, 103, 105, 110] := by decide +kernel
section
variable {K : PySem.W.Frag} {vs : List V} {H H' : Hp} {Q : VK} {E : XK} {x : Addr} {M : LM}
theorem cut_tail {y : V} {xs : List V} : cutV (y :: xs) (some 1) none = xs := by rw [cutV_from (by decide)]; rfl
theorem rws_len4 (g : GoodM M) : (rwsOf M).length ≤ 24 := by
  unfold rwsOf
  rw [rws_len]
  exact Nat.mul_le_mul g.ab.2.1 g.st.2.1
end
end WB
namespace WB
open PySem PySem.Spec PyProof.Rows L2 ClX
def rListU (K : PySem.W.Frag) : List V → Hp → VK → Prop := fun xs H Q => rListS xs H Q ∨ ∃ p ys, xs = [.ref p] ∧ (SqL K H p ys ∨ SqT K H p ys) ∧ ∀ l, H l = none → Q (.ref l) (upd H l (.lst ys))
theorem call_listU {X : Cx} (hc : X.calm = true) : CallR X (.type "list") (rListU X.K) := by
  intro pins s σ H xs us Q I r h
  rcases h with h | h
  · exact call_listS hc pins s σ H xs us Q I r h
  · exact call_list_of pins s σ H xs us Q I r h
end WB
namespace WB
open PySem PySem.Spec PyProof.Rows L2
def dfl0 (K : PySem.W.Frag) : Addr := He.dflAt ("Loop", some "__init__") 0 K
def Dfl0 (K : PySem.W.Frag) : Prop := ∀ H : Hp, SqT K H (He.dflAt ("Loop", some "__init__") 0 K) []
end WB
namespace WB
open PySem PySem.Spec PyProof.Rows L2
theorem scD_inj {u v : V} (hu : Pl u) (hv : Pl v) (h : PyData.eqv (scD u) (scD v) = true) : u = v := by
  rcases hu with ⟨i, rfl⟩ | ⟨l, _, rfl⟩ <;> rcases hv with ⟨j, rfl⟩ | ⟨m, _, rfl⟩
  · simp only [scD, PyData.eqv, beq_iff_eq] at h
    rw [h]
  · simp [scD, vS, PyData.eqv] at h
  · simp [scD, vS, PyData.eqv] at h
  · simp only [scD, vS, PyData.eqv, beq_iff_eq] at h
    show V.str (S l) = V.str (S m)
    rw [h]
theorem eqvAll_inj : ∀ (l m : List V), (∀ v ∈ l, Pl v) → (∀ v ∈ m, Pl v) → PyData.eqvAll (l.map scD) (m.map scD) = true → l = m
  | [], [], _, _, _ => rfl
  | [], _ :: _, _, _, h => by simp [PyData.eqvAll] at h
  | _ :: _, [], _, _, h => by simp [PyData.eqvAll] at h
  | u :: l, v :: m, hl, hm, h => by
    simp only [List.map_cons, PyData.eqvAll, Bool.and_eq_true] at h
    rw [scD_inj (hl u List.mem_cons_self) (hm v List.mem_cons_self) h.1, eqvAll_inj l m (fun x hx => hl x (List.mem_cons_of_mem _ hx)) (fun x hx => hm x (List.mem_cons_of_mem _ hx)) h.2]
theorem not_eqv {d e : PyData} (h : PyData.eqv d e = true → False) : PyData.eqv d e = false := by
  cases z : PyData.eqv d e with
  | false => rfl
  | true => exact absurd z h
structure Told (M : LM) (s : List Nat) (rs : List Rw) (ts : List Tn) (ys : List (List Nat)) : Prop where
  s : s.Perm M.ab
  r : rs.Perm (rwsOf (srtM M))
  t : ts.Nodup ∧ (∀ t ∈ ts, t ∈ tnsOf M) ∧ ∀ t ∈ tnsOf M, t ∉ ts → (t.b, t.n) = (t.a, 0)
  y : ys.Perm M.ok
section
variable {M : LM} {s : List Nat} {rs : List Rw} {ts : List Tn} {ys : List (List Nat)}
theorem Told.rows (m : GM M) (h : Told M s rs ts ys) : goodRws s M.st rs := by
  have g := good_rws (good_srt m.g)
  have hs : s.Perm (sgn M.ab) := h.s.trans (sgn_perm M.ab).symm
  refine ⟨fun r hr => ?_, ?_, ?_⟩
  · have := g.1 r (h.r.mem_iff.mp hr)
    exact ⟨this.1, hs.mem_iff.mpr this.2.1, this.2.2⟩
  · exact (h.r.map _).nodup_iff.mpr g.2.1
  · rw [h.r.length_eq, g.2.2]
    show (sgn M.ab).length * _ = _
    rw [hs.length_eq]
    rfl
theorem tn_inj {a b : Tn} (ha : a ∈ tnsOf M) (hb : b ∈ tnsOf M) (e : a.a = b.a) : a = b := by
  obtain ⟨x, _, rfl⟩ := List.mem_map.mp ha
  obtain ⟨y, _, rfl⟩ := List.mem_map.mp hb
  have e : x = y := e
  rw [e]
theorem Told.tns (m : GM M) (h : Told M s rs ts ys) : goodTns M.st ts := by
  have g := good_tns m.g
  refine ⟨fun t ht => g.1 t (h.t.2.1 t ht), ?_⟩
  refine List.pairwise_map.mpr ?_
  refine List.Pairwise.imp_of_mem (fun {a b} ha hb (z : a ≠ b) e => z (tn_inj (h.t.2.1 a ha) (h.t.2.1 b hb) e)) h.t.1
theorem Told.yes (m : GM M) (h : Told M s rs ts ys) : goodYes M.st ys := ⟨fun y hy => m.g.ok y (h.y.mem_iff.mp hy), h.y.nodup_iff.mpr (by rw [← m.f]; exact m.g.st.2.2.1.sublist List.filter_sublist)⟩
theorem Told.gs (m : GM M) (h : Told M s rs ts ys) : goodS s := goodS_perm m.g.ab h.s
end
def fltM (M : LM) : LM := { srtM M with ok := M.st.filter fun a => decide (a ∈ M.ok) }
theorem flt_eq {M : LM} (m : GM M) : fltM M = srtM M := by
  unfold fltM
  rw [m.f]
  rfl
section
variable {K : PySem.W.Frag} {H H' : Hp} {Q : VK} {E : XK} {a p q x : Addr} {M : LM} {v : V} {xs : List V}
def SeqV (K : PySem.W.Frag) (H : Hp) (v : V) (xs : List V) : Prop := (∃ l : List Nat, v = vS l ∧ xs = l.map fun c => vS [c]) ∨ ∃ t, v = .ref t ∧ (SqL K H t xs ∨ SqT K H t xs)
theorem SeqV.ex0 (e : Ex [] H H') (h : SeqV K H v xs) : SeqV K H' v xs := by
  rcases h with h | ⟨t, rfl, h | h⟩
  · exact .inl h
  · exact .inr ⟨t, rfl, .inl (e.sqL (by simp) h)⟩
  · exact .inr ⟨t, rfl, .inr (e.sqT (by simp) h)⟩
theorem s_listU (h : SeqV K H v xs) (hl : xs.length ≤ 600) (k : ∀ p H2, H p = none → Ex [] H H2 → H2 p = some (.lst xs) → Q (.ref p) H2) : rListU K [v] H Q := by
  rcases h with ⟨l, rfl, rfl⟩ | ⟨t, rfl, h⟩
  · exact .inl ⟨l, rfl, Nat.le_trans (by simpa using hl) (by decide), k⟩
  · exact .inr ⟨t, xs, rfl, h, s_new k⟩
theorem s_lenU (h : SeqV K H v xs) (hl : xs.length ≤ 600) (k : Q (.int xs.length) H) : rLenV K [v] H Q := by
  rcases h with ⟨l, rfl, rfl⟩ | ⟨t, rfl, h | h⟩
  · rw [List.length_map] at hl k
    exact s_lenS (Nat.le_trans hl (by decide)) k
  · exact s_lenL h k
  · exact s_lenT h k
def sp_law_shufU (K : PySem.W.Frag) : Sp := fun vs H Q _ => ∃ (a : Addr) (v : V), vs = [.ref a, v] ∧ ∃ xs : List V, SeqV K H v xs ∧ xs.length ≤ 600 ∧ PoolAt H a ∧ ∀ (ys : List V) (p : Addr) (H' : Hp), ys.Perm xs → H p = none → Ex [a] H H' → PoolAt H' a → H' p = some (.lst ys) → Q (.ref p) H'
theorem u_shufU (h : SeqV K H v xs) (hl : xs.length ≤ 600) (hp : PoolAt H a) (k : ∀ (ys : List V) (p : Addr) (H' : Hp), ys.Perm xs → H p = none → Ex [a] H H' → PoolAt H' a → H' p = some (.lst ys) → Q (.ref p) H') : sp_law_shufU K ([.ref a, v] ++ []) H Q E := ⟨a, v, rfl, xs, h, hl, hp, k⟩
def sp_law_lineF (K : PySem.W.Frag) : Sp := fun vs H Q _ => ∃ q : Addr, vs = [.ref q] ∧ ∃ M : LM, MAt K H q M ∧ GoodM M ∧ ∀ p H', Ex [] H H' → LRowAt K H' p (fltM M) → Q (.ref p) H'
theorem u_lineF (h : MAt K H q M) (g : GoodM M) (k : ∀ p H', Ex [] H H' → LRowAt K H' p (fltM M) → Q (.ref p) H') : sp_law_lineF K ([.ref q] ++ []) H Q E := ⟨q, rfl, M, h, g, k⟩
theorem u_lineG (h : MAt K H q M) (m : GM M) (k : ∀ p H', Ex [] H H' → LRowAt K H' p (srtM M) → Q (.ref p) H') : sp_law_lineF K ([.ref q] ++ []) H Q E := u_lineF h m.g fun p H' e r => k p H' e (by rw [flt_eq m] at r; exact r)
def PartsAt (K : PySem.W.Frag) (H : Hp) (p : Addr) (M : LM) (s : List Nat) (rs : List Rw) (ts : List Tn) (ys : List (List Nat)) : Prop := ∃ o r t y, H p = some (.lst [vS s, .ref o, .ref r, .ref t, .ref y]) ∧ SqT K H o (M.st.map vS) ∧ TupsAt K H r (rs.map rwV) ∧ TupsAt K H t (ts.map tnV) ∧ SqT K H y (ys.map vS)
def sp_law_parts (K : PySem.W.Frag) : Sp := fun vs H Q _ => ∃ (a q : Addr), vs = [.ref a, .ref q] ∧ ∃ M : LM, MAt K H q M ∧ GM M ∧ PoolAt H a ∧ ∀ p s rs ts ys H', Ex [a] H H' → PoolAt H' a → Told M s rs ts ys → PartsAt K H' p M s rs ts ys → Q (.ref p) H'
theorem u_parts (h : MAt K H q M) (m : GM M) (hp : PoolAt H a) (k : ∀ p s rs ts ys H', Ex [a] H H' → PoolAt H' a → Told M s rs ts ys → PartsAt K H' p M s rs ts ys → Q (.ref p) H') : sp_law_parts K ([.ref a, .ref q] ++ []) H Q E := ⟨a, q, rfl, M, h, m, hp, k⟩
theorem LRowAt.exP (hp : PoolAt H a) (e : Ex [a] H H') (h : LRowAt K H p M) : LRowAt K H' p M := by
  obtain ⟨o, r, t, y, h1, h2, h3, h4, h5⟩ := h
  exact ⟨o, r, t, y, sqT_pool hp e h1, sqT_pool hp e h2, h3.exP hp e, h4.exP hp e, sqT_pool hp e h5⟩
theorem Tups.cons {x : V} {l : List V} {ls : List (List V)} (h0 : ∃ p, x = .ref p ∧ SqT K H p l) (h : Tups K H xs ls) : Tups K H (x :: xs) (l :: ls) := ⟨by simp [h.1], fun i y m h1 h2 => by
  cases i with
  | zero => cases h1; cases h2; exact h0
  | succ i => exact h.2 i y m h1 h2⟩
theorem Tups.un {x : V} {l : List V} {ls : List (List V)} (h : Tups K H (x :: xs) (l :: ls)) : (∃ p, x = .ref p ∧ SqT K H p l) ∧ Tups K H xs ls := ⟨h.2 0 x l rfl rfl, by simpa using h.1, fun i y m h1 h2 => h.2 (i + 1) y m h1 h2⟩
theorem tups_cons {α : Type} {f : α → List V} {x : V} {l : List α} (h : Tups K H (x :: xs) (l.map f)) : ∃ b l0, l = b :: l0 ∧ (∃ p, x = .ref p ∧ SqT K H p (f b)) ∧ Tups K H xs (l0.map f) := by
  match l, h with
  | [], h => exact absurd h.1 (by simp)
  | b :: l0, h => exact ⟨b, l0, rfl, h.un.1, h.un.2⟩
theorem tups_perm {α : Type} (f : α → List V) {xs ys : List V} (hp : ys.Perm xs) : ∀ {l : List α}, Tups K H xs (l.map f) → ∃ m : List α, m.Perm l ∧ Tups K H ys (m.map f) := by
  induction hp with
  | nil => exact fun {l} h => ⟨l, List.Perm.refl _, h⟩
  | cons x _ ih =>
    intro l h
    obtain ⟨b, l0, rfl, h0, h1⟩ := tups_cons h
    obtain ⟨m, m1, m2⟩ := ih h1
    exact ⟨b :: m, m1.cons b, m2.cons h0⟩
  | swap x y l' =>
    intro l h
    obtain ⟨b, l0, rfl, h0, h1⟩ := tups_cons h
    obtain ⟨c, l1, rfl, h2, h3⟩ := tups_cons h1
    exact ⟨c :: b :: l1, List.Perm.swap b c l1, (h3.cons h0).cons h2⟩
  | trans _ _ ih1 ih2 =>
    intro l h
    obtain ⟨m, m1, m2⟩ := ih2 h
    obtain ⟨n, n1, n2⟩ := ih1 m2
    exact ⟨n, n1.trans m1, n2⟩
end
end WB
namespace WB
open PySem PySem.Spec PyProof.Rows L2 SeqAt
section
variable {X : Cx}
def rNotInK (K : PySem.W.Frag) : R2 := fun x y H Q => ∃ (p : Addr) (ls : List Str), y = .ref p ∧ (SqL K H p (ls.map V.str) ∨ SqT K H p (ls.map V.str)) ∧ ((∃ a : Str, x = .str a ∧ Q (.bl (!decide (a ∈ ls))) H) ∨ (OthK K H x ∧ Q (.bl true) H))
theorem op_notInK (hu : X.A.units + 65 < cLine) : OpR X (compareOp .NotIn) (rNotInK X.K) := by
  intro pins s σ H x y v u Q I rx ry h
  obtain ⟨p, ls, rfl, hq, ⟨a, rfl, q⟩ | ⟨ho, q⟩⟩ := h
  · exact op_notIn_seq pins s σ H (.str a) (.ref p) v u Q I rx ry ⟨p, ls.map V.str, rfl, hq, rfl, flat_strs ls, by rw [in_strs]; simpa using q⟩
  · cases ry
    have hu1 : X.A.in1.units < cLine := by show X.A.units + 1 < cLine; omega
    rcases hq with hq | hq
    · obtain ⟨its, r, pl, hz⟩ := I.list hq
      refine notIn_listAt (fun _ => false) pl.isList (fun w hw => ?_) ⟨.bl _, H, I, rfl, ?_⟩
      · obtain ⟨b, t, rfl⟩ := vals_strs r w (by simpa using hw)
        exact (oth_eq hu1 I rx ho).2
      · rw [show its.toArray.any (fun _ => false) = false by simp]
        exact q
    · obtain ⟨its, r, pl, hz⟩ := I.tuple hq
      refine notIn_tupleAt (fun _ => false) pl (fun w hw => ?_) ⟨.bl _, H, I, rfl, ?_⟩
      · obtain ⟨b, t, rfl⟩ := vals_strs r w (by simpa using hw)
        exact (oth_eq hu1 I rx ho).2
      · rw [show its.toArray.any (fun _ => false) = false by simp]
        exact q
end
end WB
namespace WB
open PySem PySem.Spec PyProof.Rows L2 LamX
def firstB (bad : Nat → Bool) (n : Nat) : Option Nat := (List.range n).find? bad
theorem firstB_none {bad : Nat → Bool} {n : Nat} (h : ∀ i, i < n → bad i = false) : firstB bad n = none := by
  unfold firstB
  rw [List.find?_eq_none]
  intro i hi
  rw [h i (List.mem_range.mp hi)]
  simp
theorem firstB_all {bad : Nat → Bool} {n : Nat} (h : firstB bad n = none) : ∀ i, i < n → bad i = false := fun i hi => by
  unfold firstB at h
  rw [List.find?_eq_none] at h
  exact Bool.eq_false_iff.mpr (h i (List.mem_range.mpr hi))
theorem firstB_some {bad : Nat → Bool} {n i : Nat} (hi : i < n) (hb : bad i = true) (hk : ∀ k, k < i → bad k = false) : firstB bad n = some i := by
  unfold firstB
  rw [List.find?_range_eq_some]
  exact ⟨hb, List.mem_range.mpr hi, fun j hj => by rw [hk j hj]; rfl⟩
def nameB (l : List Nat) : Bool := decide (1 ≤ l.length ∧ l.length ≤ 8) && ((match l with | c :: _ => decide (c ∈ LET) | [] => false) && l.all fun c => decide (c ∈ MRK))
theorem nameB_iff {l : List Nat} : nameB l = true ↔ isName l := by
  unfold nameB isName
  match l with
  | [] => simp
  | c :: r => simp only [Bool.and_eq_true, decide_eq_true_eq, List.all_eq_true]; exact ⟨fun ⟨⟨h1, h2⟩, h3, h4⟩ => ⟨h1, h2, ⟨c, r, rfl, h3⟩, h4⟩, fun ⟨h1, h2, ⟨_, _, e, h3⟩, h4⟩ => ⟨⟨h1, h2⟩, by cases e; exact h3, h4⟩⟩
def nameV : V → Bool
  | .str y => nameB y.cps.toList
  | _ => false
theorem nameV_S {l : List Nat} : nameV (vS l) = nameB l := rfl
theorem nameV_iff {x : V} (h : nameV x = true) : ∃ l, x = vS l ∧ isName l := by
  cases x with
  | str y => exact ⟨y.cps.toList, by show V.str y = V.str (S _); rw [S_toList], nameB_iff.mp h⟩
  | _ => cases h
def goodSB (l : List Nat) : Bool := isWord l LET && (decide (l.length ≤ 4) && decide l.Nodup)
theorem goodSB_iff {l : List Nat} : goodSB l = true ↔ goodS l := by
  unfold goodSB goodS
  simp only [Bool.and_eq_true, decide_eq_true_eq]
def badSg : V → Bool
  | .str y => !goodSB y.cps.toList
  | _ => true
theorem badSg_S {l : List Nat} : badSg (vS l) = !goodSB l := rfl
def sOf : V → List Nat
  | .str y => y.cps.toList
  | _ => []
theorem sOf_S {l : List Nat} : sOf (vS l) = l := rfl
def stOf (d : Option (List V)) : List (List Nat) := (d.getD []).map sOf
theorem stOf_S {ls : List (List Nat)} : stOf (some (ls.map vS)) = ls := by
  unfold stOf
  rw [Option.getD_some, List.map_map]
  have : sOf ∘ vS = id := by funext l; rfl
  rw [this, List.map_id]
def stBad (xs : List V) (i : Nat) : Bool := decide (i = 6) || (!nameV (xs.getD i .non) || decide (xs.getD i .non ∈ xs.take i))
def stDue : Option (List V) → Option (Option Nat)
  | none => some none
  | some xs => if xs.length = 0 then some none else (firstB (stBad xs) xs.length).map some
def keyOf (d : Option (List V)) : List V := (d.getD []).take 2
def rowBad (s : List Nat) (st : List (List Nat)) (ds : List (Option (List V))) (i : Nat) : Bool := !stepO s st (ds.getD i none) || decide (keyOf (ds.getD i none) ∈ (ds.take i).map keyOf)
def rowsDue (s : List Nat) (st : List (List Nat)) : Option (List (Option (List V))) → Option (Option Nat)
  | none => some none
  | some ds => match firstB (rowBad s st ds) ds.length with
    | some i => some (some i)
    | none => if ds.length < s.length * st.length then some none else none
def headOf (d : Option (List V)) : V := (d.getD []).headD .non
def endBad (st : List (List Nat)) (ds : List (Option (List V))) (i : Nat) : Bool := !endO st (ds.getD i none) || decide (headOf (ds.getD i none) ∈ (ds.take i).map headOf)
def endsDue (st : List (List Nat)) : Option (List (Option (List V))) → Option (Option Nat)
  | none => some none
  | some ds => (firstB (endBad st ds) ds.length).map some
def yesBad (st : List (List Nat)) (xs : List V) (i : Nat) : Bool := !inSV st (xs.getD i .non) || decide (xs.getD i .non ∈ xs.take i)
def yesDue (st : List (List Nat)) : Option (List V) → Option (Option Nat)
  | none => some none
  | some xs => (firstB (yesBad st xs) xs.length).map some
def oN : Option Nat → V
  | none => .non
  | some i => .int (i : Nat)
def oD : Option Nat → PyData
  | none => .none
  | some i => .int (i : Nat)
def s14Signs : List Nat := [115, 105, 103, 110, 115]
def s14States : List Nat := [115, 116, 97, 116, 101, 115]
def s14Rows : List Nat := [114, 111, 119, 115]
def s14Turns : List Nat := [116, 117, 114, 110, 115]
inductive Due where
  | ok
  | signs
  | at (C : Str) (w : List Nat) (j : Option Nat)
def loopDue (v : V) (d1 : Option (List V)) (d2 d3 : Option (List (Option (List V)))) (d4 : Option (List V)) : Due :=
  if badSg v = true then .signs else
  match stDue d1 with
  | some j => .at "InvalidStates" s14States j
  | none => match rowsDue (sOf v) (stOf d1) d2 with
    | some j => .at "InvalidRows" s14Rows j
    | none => match endsDue (stOf d1) d3 with
      | some j => .at "InvalidTurns" s14Turns j
      | none => match yesDue (stOf d1) d4 with
        | some j => .at "InvalidStates" s14States j
        | none => .ok
def Due.w : Due → List Nat
  | .ok => sNothing
  | .signs => s14Signs
  | .at _ w _ => w
def Due.d (dv : PyData) : Due → PyData
  | .ok => .none
  | .signs => dv
  | .at _ _ j => oD j
def plV (x : V) : Prop := ∀ l, x = vS l → plain l
def plD (d : Option (List V)) : Prop := ∀ xs, d = some xs → ∀ x ∈ xs, plV x
inductive SgK (K : PySem.W.Frag) (H : Hp) : V → Prop where
  | str (l : List Nat) (h : l.length ≤ 10000) (p : plain l) : SgK K H (vS l)
  | oth {x : V} (h : OthK K H x) : SgK K H x
inductive RwK (K : PySem.W.Frag) (H : Hp) : V → Option (List (Option (List V))) → Prop where
  | tup {a : Addr} {xs : List V} {ds : List (Option (List V))} (h : SqT K H a xs) (hl : ds.length = xs.length) (hn : xs.length ≤ 100) (he : ∀ (i : Nat) x d, xs[i]? = some x → ds[i]? = some d → ThK K H x d) : RwK K H (.ref a) (some ds)
  | oth {x : V} (h : ThK K H x none) : RwK K H x none
section
variable {K : PySem.W.Frag} {H H' : Hp} {x : V}
theorem SgK.ex0 (e : Ex [] H H') : SgK K H x → SgK K H' x
  | .str l h p => .str l h p
  | .oth h => .oth (h.ex0 e)
theorem SgK.el : SgK K H x → ElK K H x
  | .str l h p => .str l h
  | .oth h => .oth h
theorem RwK.ex0 {d : Option (List (Option (List V)))} (e : Ex [] H H') : RwK K H x d → RwK K H' x d
  | .tup h hl hn he => .tup (e.sqT (by simp) h) hl hn fun i x d h1 h2 => (he i x d h1 h2).ex0 e
  | .oth h => .oth (h.ex0 e)
end
structure PtK (K : PySem.W.Frag) (H : Hp) (v0 v1 v2 v3 v4 : V) (dv : PyData) (d1 : Option (List V)) (d2 d3 : Option (List (Option (List V)))) (d4 : Option (List V)) : Prop where
  s : SgK K H v0
  f : Dx K H 5 v0 dv
  st : ThK K H v1 d1
  pl : plD d1
  rw : RwK K H v2 d2
  tn : RwK K H v3 d3
  ys : ThK K H v4 d4
theorem PtK.ex0 {K : PySem.W.Frag} {H H' : Hp} {v0 v1 v2 v3 v4 : V} {dv : PyData} {d1 d4 : Option (List V)} {d2 d3 : Option (List (Option (List V)))} (e : Ex [] H H') (h : PtK K H v0 v1 v2 v3 v4 dv d1 d2 d3 d4) : PtK K H' v0 v1 v2 v3 v4 dv d1 d2 d3 d4 := ⟨h.s.ex0 e, Dx.ex e _ _ _ h.f, h.st.ex0 e, h.pl, h.rw.ex0 e, h.tn.ex0 e, h.ys.ex0 e⟩
structure InX (K : PySem.W.Frag) : Prop where
  sg : ExcK K (He.ga K "InvalidSigns") (He.ma K (He.ga K "InvalidSigns") "__init__") "given"
  st : ExcK K (He.ga K "InvalidStates") (He.ma K (He.ga K "InvalidStates") "__init__") "index"
  rw : ExcK K (He.ga K "InvalidRows") (He.ma K (He.ga K "InvalidRows") "__init__") "index"
  tn : ExcK K (He.ga K "InvalidTurns") (He.ma K (He.ga K "InvalidTurns") "__init__") "index"
def sp_is_nameA (K : PySem.W.Frag) : Sp := fun vs H Q _ => ∃ v : V, vs = [v] ∧ ElK K H v ∧ ∀ H', Ex [] H H' → Q (.bl (nameV v)) H'
def spr_check_signs (K : PySem.W.Frag) : Sp := fun vs H Q E => ∃ v : V, vs = [v] ∧ SgK K H v ∧ badSg v = true ∧ Rsd K H E "InvalidSigns" "given" v
def spr_check_states (K : PySem.W.Frag) : Sp := fun vs H Q E => ∃ v : V, vs = [v] ∧ ∃ d j, ThK K H v d ∧ stDue d = some j ∧ Rsd K H E "InvalidStates" "index" (oN j)
def spr_check_rows (K : PySem.W.Frag) : Sp := fun vs H Q E => ∃ (s : List Nat) (t : Addr) (v : V), vs = [vS s, .ref t, v] ∧ ∃ st dd j, goodS s ∧ goodSt st ∧ SqT K H t (st.map vS) ∧ RwK K H v dd ∧ rowsDue s st dd = some j ∧ Rsd K H E "InvalidRows" "index" (oN j)
def spr_check_turns (K : PySem.W.Frag) : Sp := fun vs H Q E => ∃ (t : Addr) (v : V), vs = [.ref t, v] ∧ ∃ st dd j, goodSt st ∧ SqT K H t (st.map vS) ∧ RwK K H v dd ∧ endsDue st dd = some j ∧ Rsd K H E "InvalidTurns" "index" (oN j)
def spr_check_yes (K : PySem.W.Frag) : Sp := fun vs H Q E => ∃ (t : Addr) (v : V), vs = [.ref t, v] ∧ ∃ st d j, goodSt st ∧ SqT K H t (st.map vS) ∧ ThK K H v d ∧ yesDue st d = some j ∧ Rsd K H E "InvalidStates" "index" (oN j)
def spx_check_signs (K : PySem.W.Frag) : Sp := fun vs H Q E => sp_check_signs K vs H Q E ∨ spr_check_signs K vs H Q E
def spx_check_states (K : PySem.W.Frag) : Sp := fun vs H Q E => sp_check_states K vs H Q E ∨ spr_check_states K vs H Q E
def spx_check_rows (K : PySem.W.Frag) : Sp := fun vs H Q E => sp_check_rows K vs H Q E ∨ spr_check_rows K vs H Q E
def spx_check_turns (K : PySem.W.Frag) : Sp := fun vs H Q E => sp_check_turns K vs H Q E ∨ spr_check_turns K vs H Q E
def spx_check_yes (K : PySem.W.Frag) : Sp := fun vs H Q E => sp_check_yes K vs H Q E ∨ spr_check_yes K vs H Q E
def RsdDue (K : PySem.W.Frag) (H : Hp) (E : XK) (v : V) : Due → Prop
  | .ok => False
  | .signs => Rsd K H E "InvalidSigns" "given" v
  | .at C _ j => Rsd K H E C "index" (oN j)
def spr_Loop_init (K : PySem.W.Frag) : Sp := fun vs H Q E => ∃ x v0 v1 v2 v3 v4 : V, vs = [x, v0, v1, v2, v3, v4] ∧ ∃ dv d1 d2 d3 d4, PtK K H v0 v1 v2 v3 v4 dv d1 d2 d3 d4 ∧ RsdDue K H E v0 (loopDue v0 d1 d2 d3 d4)
def spx_Loop_init (K : PySem.W.Frag) : Sp := fun vs H Q E => sp_Loop_init K vs H Q E ∨ spr_Loop_init K vs H Q E
def dueL : Option (Option Nat) → List V
  | none => []
  | some j => [oN j]
def sp_law_is_name (K : PySem.W.Frag) : Sp := fun vs H Q _ => ∃ v : V, vs = [v] ∧ ElK K H v ∧ plV v ∧ ∀ H', Ex [] H H' → Q (.bl (nameV v)) H'
def sp_law_bad_signs (K : PySem.W.Frag) : Sp := fun vs H Q _ => ∃ v : V, vs = [v] ∧ SgK K H v ∧ ∀ H', Ex [] H H' → Q (.bl (badSg v)) H'
def sp_law_states_due (K : PySem.W.Frag) : Sp := fun vs H Q _ => ∃ v : V, vs = [v] ∧ ∃ d, ThK K H v d ∧ plD d ∧ ∀ p H', Ex [] H H' → H' p = some (.lst (dueL (stDue d))) → Q (.ref p) H'
def sp_law_rows_due (K : PySem.W.Frag) : Sp := fun vs H Q _ => ∃ (s : List Nat) (t : Addr) (v : V), vs = [vS s, .ref t, v] ∧ ∃ st dd, goodS s ∧ goodSt st ∧ SqT K H t (st.map vS) ∧ RwK K H v dd ∧ ∀ p H', Ex [] H H' → H' p = some (.lst (dueL (rowsDue s st dd))) → Q (.ref p) H'
def sp_law_ends_due (K : PySem.W.Frag) : Sp := fun vs H Q _ => ∃ (t : Addr) (v : V), vs = [.ref t, v] ∧ ∃ st dd, goodSt st ∧ SqT K H t (st.map vS) ∧ RwK K H v dd ∧ ∀ p H', Ex [] H H' → H' p = some (.lst (dueL (endsDue st dd))) → Q (.ref p) H'
def sp_law_yes_due (K : PySem.W.Frag) : Sp := fun vs H Q _ => ∃ (t : Addr) (v : V), vs = [.ref t, v] ∧ ∃ st d, goodSt st ∧ SqT K H t (st.map vS) ∧ ThK K H v d ∧ ∀ p H', Ex [] H H' → H' p = some (.lst (dueL (yesDue st d))) → Q (.ref p) H'
def sp_law_loop_due (K : PySem.W.Frag) : Sp := fun vs H Q _ => ∃ p : Addr, vs = [.ref p] ∧ ∃ v0 v1 v2 v3 v4 dv d1 d2 d3 d4, SqL K H p [v0, v1, v2, v3, v4] ∧ PtK K H v0 v1 v2 v3 v4 dv d1 d2 d3 d4 ∧ ∀ r H', Ex [] H H' → Fr (fun _ => True) H' 12 (.ref r) (.list [dS (loopDue v0 d1 d2 d3 d4).w, faceX 5 ((loopDue v0 d1 d2 d3 d4).d dv)]) → Q (.ref r) H'
def ThN (K : PySem.W.Frag) (m : List Addr) (H : Hp) (v : V) (d : Option (List V)) : Prop := ∀ H', ExN m H H' → ThK K H' v d
def RwN (K : PySem.W.Frag) (m : List Addr) (H : Hp) (v : V) (d : Option (List (Option (List V)))) : Prop := ∀ H', ExN m H H' → RwK K H' v d
def OdN (K : PySem.W.Frag) (m : List Addr) (H : Hp) (v : V) : Prop := ∀ H', ExN m H H' → ElK K H' v
theorem ThN.ex {K : PySem.W.Frag} {m : List Addr} {H H' : Hp} {v : V} {d : Option (List V)} (e : ExN m H H') (h : ThN K m H v d) : ThN K m H' v d := fun H2 e2 => h H2 (e.trans e2)
theorem RwN.ex {K : PySem.W.Frag} {m : List Addr} {H H' : Hp} {v : V} {d : Option (List (Option (List V)))} (e : ExN m H H') (h : RwN K m H v d) : RwN K m H' v d := fun H2 e2 => h H2 (e.trans e2)
theorem OdN.ex {K : PySem.W.Frag} {m : List Addr} {H H' : Hp} {v : V} (e : ExN m H H') (h : OdN K m H v) : OdN K m H' v := fun H2 e2 => h H2 (e.trans e2)
def PtI (K : PySem.W.Frag) (m : List Addr) (H : Hp) : Nat → V → Prop
  | 0, v => ∃ dv, (∀ H', ExN m H H' → SgK K H' v) ∧ (∀ H', ExN m H H' → Dx K H' 5 v dv)
  | 1, v => ∃ d, ThN K m H v d ∧ plD d
  | 2, v => ∃ d, RwN K m H v d
  | 3, v => ∃ d, RwN K m H v d
  | _, v => ∃ d, ThN K m H v d
section
variable {K : PySem.W.Frag} {m m' : List Addr} {H H' : Hp} {v : V} {vs : List V} {k : Nat}
theorem PtI.ex (e : ExN m H H') (h : PtI K m H k v) : PtI K m H' k v := by
  match k, h with
  | 0, ⟨dv, h1, h2⟩ => exact ⟨dv, fun H2 e2 => h1 H2 (e.trans e2), fun H2 e2 => h2 H2 (e.trans e2)⟩
  | 1, ⟨d, h1, h2⟩ => exact ⟨d, h1.ex e, h2⟩
  | 2, ⟨d, h1⟩ => exact ⟨d, h1.ex e⟩
  | 3, ⟨d, h1⟩ => exact ⟨d, h1.ex e⟩
  | _ + 4, ⟨d, h1⟩ => exact ⟨d, h1.ex e⟩
theorem ExN.less (h : ∀ b ∈ m, b ∈ m') (e : ExN m H H') : ExN m' H H' := fun b o n z => e b o (fun y => n (h b y)) z
theorem PtI.less (i : ∀ b ∈ m, b ∈ m') (h : PtI K m' H k v) : PtI K m H k v := by
  match k, h with
  | 0, ⟨dv, h1, h2⟩ => exact ⟨dv, fun H2 e2 => h1 H2 (e2.less i), fun H2 e2 => h2 H2 (e2.less i)⟩
  | 1, ⟨d, h1, h2⟩ => exact ⟨d, fun H2 e2 => h1 H2 (e2.less i), h2⟩
  | 2, ⟨d, h1⟩ => exact ⟨d, fun H2 e2 => h1 H2 (e2.less i)⟩
  | 3, ⟨d, h1⟩ => exact ⟨d, fun H2 e2 => h1 H2 (e2.less i)⟩
  | _ + 4, ⟨d, h1⟩ => exact ⟨d, fun H2 e2 => h1 H2 (e2.less i)⟩
structure PtN (K : PySem.W.Frag) (m : List Addr) (H : Hp) (vs : List V) : Prop where
  l : vs.length = 5
  p : ∀ (k : Nat) v, vs[k]? = some v → PtI K m H k v
theorem PtN.ex (e : ExN m H H') (h : PtN K m H vs) : PtN K m H' vs := ⟨h.l, fun k v z => (h.p k v z).ex e⟩
theorem PtN.less (i : ∀ b ∈ m, b ∈ m') (h : PtN K m' H vs) : PtN K m H vs := ⟨h.l, fun k v z => (h.p k v z).less i⟩
theorem PtN.set (h : PtN K m H vs) (hv : PtI K m H k v) : PtN K m H (vs.set k v) := ⟨by rw [List.length_set]; exact h.l, fun j u z => by
  by_cases e : k = j
  · subst e
    rw [List.getElem?_set_self'] at z
    obtain ⟨_, _, z⟩ := Option.map_eq_some_iff.mp z
    rw [← z]
    exact hv
  · rw [List.getElem?_set_ne e] at z
    exact h.p j u z⟩
end
def sp_law_namesA (K : PySem.W.Frag) : Sp := fun vs H Q _ => ∃ (a : Addr) (m : Int), vs = [.ref a, .int m] ∧ 1 ≤ m ∧ m ≤ 7 ∧ PoolAt H a ∧ ∀ (st : List (List Nat)) (p : Addr) (H' : Hp), (∀ n ∈ st, isName n) → (st.length : Int) = m → H p = none → Ex [a] H H' → PoolAt H' a → H' p = some (.lst (st.map vS)) → Q (.ref p) H'
def BentAt (K : PySem.W.Frag) (H0 H : Hp) (r : Addr) (xs : List V) (v : V) : Prop := (∃ ys, SqT K H r ys ∧ ys.length ≤ xs.length + 1 ∧ ∀ y ∈ ys, y = v ∨ y ∈ xs) ∨ (H0 r = none ∧ H r = some (.lst xs))
def sp_law_bent (K : PySem.W.Frag) : Sp := fun vs H Q _ => ∃ (a p : Addr) (v : V), vs = [.ref a, .ref p, v] ∧ ∃ xs, SqT K H p xs ∧ xs.length ≤ 50 ∧ PoolAt H a ∧ ∀ r H', Ex [a] H H' → PoolAt H' a → BentAt K H H' r xs v → Q (.ref r) H'
def ElA (K : PySem.W.Frag) (x : V) : Prop := (∃ w, x = vS w ∧ w.length ≤ 10000 ∧ plain w) ∨ ∃ i, x = .int i
def Far (a : Addr) (m : List Addr) (H : Hp) : Prop := ∀ b ∈ m, b = a ∨ ∃ xs, H b = some (.lst xs)
def sp_law_oddM (K : PySem.W.Frag) : Sp := fun vs H Q _ => ∃ (a : Addr) (m : List Addr), vs = [.ref a] ∧ PoolAt H a ∧ (∀ b ∈ m, H b ≠ none) ∧ ∀ (v : V) (H' : Hp), Ex [a] H H' → PoolAt H' a → OddAt m H' v → Q v H'
theorem u_oddM {K : PySem.W.Frag} {H : Hp} {Q : VK} {E : XK} {a : Addr} {m : List Addr} (hp : PoolAt H a) (hm : ∀ b ∈ m, H b ≠ none) (k : ∀ (v : V) (H' : Hp), Ex [a] H H' → PoolAt H' a → OddAt m H' v → Q v H') : sp_law_oddM K ([.ref a] ++ []) H Q E := ⟨_, m, rfl, hp, hm, k⟩
def sp_law_spoilt_line (K : PySem.W.Frag) : Sp := fun vs H Q _ => ∃ a p t : Addr, vs = [.ref a, .ref p, .ref t] ∧ ∃ (ls : List (List V)) (st : List (List Nat)) (m : List Addr), TupsAt K H p ls ∧ ls.length ≤ 50 ∧ (∀ l ∈ ls, 1 ≤ l.length ∧ l.length ≤ 5 ∧ ∀ x ∈ l, ElA K x) ∧ SqT K H t (st.map vS) ∧ goodSt st ∧ PoolAt H a ∧ Far a m H ∧ ∀ v d H', Ex [a] H H' → PoolAt H' a → ThN K m H' v d → Q v H'
def sp_law_spoilt (K : PySem.W.Frag) : Sp := fun vs H Q _ => ∃ (a p : Addr) (w : Int), vs = [.ref a, .ref p, .int w] ∧ ∃ M s rs ts ys m, PartsAt K H p M s rs ts ys ∧ Told M s rs ts ys ∧ GM M ∧ 0 ≤ w ∧ w ≤ 4 ∧ PoolAt H a ∧ Far a m H ∧ a ∈ m ∧ ∀ q xs H', H q = none → Ex [a] H H' → PoolAt H' a → H' q = some (.lst xs) → PtN K m H' xs → Q (.ref q) H'
def heards14 : List (Str × Str × List Nat) := [("InvalidSigns", "given", s14Signs), ("InvalidStates", "index", s14States), ("InvalidRows", "index", s14Rows), ("InvalidTurns", "index", s14Turns)]
def TT_law_heard14 (K : PySem.W.Frag) : (XK → Hp → VK → Prop) → Hp → VK → Prop := TTh K heards14
def tabs14 (K : PySem.W.Frag) : List (Addr × Str) := tabsOf K ["_law_parts_right"]
def PtS (K : PySem.W.Frag) (m : List Addr) (H : Hp) (v0 v1 v2 v3 v4 : V) (dv : PyData) (d1 : Option (List V)) (d2 d3 : Option (List (Option (List V)))) (d4 : Option (List V)) : Prop := ∀ H', ExN m H H' → PtK K H' v0 v1 v2 v3 v4 dv d1 d2 d3 d4
theorem PtN.all {K : PySem.W.Frag} {m : List Addr} {H : Hp} {vs : List V} (h : PtN K m H vs) : ∃ v0 v1 v2 v3 v4 dv d1 d2 d3 d4, vs = [v0, v1, v2, v3, v4] ∧ PtS K m H v0 v1 v2 v3 v4 dv d1 d2 d3 d4 := by
  match vs, h with
  | [v0, v1, v2, v3, v4], h =>
    obtain ⟨dv, h1, h2⟩ := h.p 0 v0 rfl
    obtain ⟨d1, h3, h4⟩ := h.p 1 v1 rfl
    obtain ⟨d2, h5⟩ := h.p 2 v2 rfl
    obtain ⟨d3, h6⟩ := h.p 3 v3 rfl
    obtain ⟨d4, h7⟩ := h.p 4 v4 rfl
    exact ⟨v0, v1, v2, v3, v4, dv, d1, d2, d3, d4, rfl, fun H' e => ⟨h1 _ e, h2 _ e, h3 _ e, h4, h5 _ e, h6 _ e, h7 _ e⟩⟩
  | [], h => cases h.l
  | [_], h => cases h.l
  | [_, _], h => cases h.l
  | [_, _, _], h => cases h.l
  | [_, _, _, _], h => cases h.l
  | _ :: _ :: _ :: _ :: _ :: _ :: _, h => have := h.l; simp at this
def sp_law_parts_right (K : PySem.W.Frag) : Sp := fun vs H Q _ => ∃ p : Addr, vs = [.ref p] ∧ ∃ v0 v1 v2 v3 v4 dv d1 d2 d3 d4, H p = some (.lst [v0, v1, v2, v3, v4]) ∧ PtS K [] H v0 v1 v2 v3 v4 dv d1 d2 d3 d4 ∧ Tabs (tabs14 K) H ∧ ∀ H', ExN [] H H' → Tabs (tabs14 K) H' → Q (.bl true) H'
def sp_law_right14 (K : PySem.W.Frag) : Sp := fun vs H Q _ => ∃ a : Addr, vs = [.ref a] ∧ PoolAt H a ∧ Tabs (tabs14 K) H ∧ ∀ H', ExN [a] H H' → Tabs (tabs14 K) H' → Q (.bl true) H'
def sp_law_at_the_limit (K : PySem.W.Frag) : Sp := fun vs H Q _ => vs = [] ∧ Tabs (tabs14 K) H ∧ ∀ H', ExN [] H H' → Tabs (tabs14 K) H' → Q (.bl true) H'
def sp_law14 (K : PySem.W.Frag) : Sp := fun vs H Q _ => ∃ (a : Addr) (ns : List Int), vs = [.ref a] ∧ SqL K H a (ns.map V.int) ∧ ns.length ≤ 63 ∧ Tabs (tabs14 K) H ∧ ∀ H', Q (.bl true) H'
end WB
namespace WB
open PySem PySem.Spec PyProof.Rows L2
section
variable {α : Type} {xs : List α} {i : Nat} {x d : α}
theorem getD_of (h : xs[i]? = some x) : xs.getD i d = x := by rw [List.getD_eq_getElem?_getD, h]; rfl
theorem take_of (h : xs[i]? = some x) : xs.take (i + 1) = xs.take i ++ [x] := by rw [List.take_add_one, h]; rfl
end
theorem mem_vS {l : List Nat} {ls : List (List Nat)} : vS l ∈ ls.map vS ↔ l ∈ ls := by
  rw [List.mem_map]
  exact ⟨fun ⟨a, h, e⟩ => by rw [← vS_eq.mp e]; exact h, fun h => ⟨l, h, rfl⟩⟩
theorem stepO_true {s : List Nat} {st : List (List Nat)} {d : Option (List V)} (h : stepO s st d = true) : ∃ r : Rw, d = some (rwV r) ∧ r.a ∈ st ∧ r.c ∈ s ∧ r.b ∈ st := by
  match d, h with
  | some [a, b, c, e], h =>
    obtain ⟨h2, h3⟩ := Bool.and_eq_true_iff.mp (show (sgV s b && (inSV st a && (inSV st c && intV e))) = true from h)
    obtain ⟨h4, h5⟩ := Bool.and_eq_true_iff.mp h3
    obtain ⟨h6, h7⟩ := Bool.and_eq_true_iff.mp h5
    obtain ⟨e, he, rfl⟩ := sgV_iff h2
    obtain ⟨p, hp, rfl⟩ := inSV_iff h4
    obtain ⟨q, hq, rfl⟩ := inSV_iff h6
    obtain ⟨i, rfl⟩ := intV_iff h7
    exact ⟨⟨p, e, q, i⟩, rfl, hp, he, hq⟩
theorem endO_true {st : List (List Nat)} {d : Option (List V)} (h : endO st d = true) : ∃ t : Tn, d = some (tnV t) ∧ t.a ∈ st ∧ t.b ∈ st := by
  match d, h with
  | some [a, b, c], h =>
    obtain ⟨h3, h4⟩ := Bool.and_eq_true_iff.mp (show (inSV st a && (inSV st b && intV c)) = true from h)
    obtain ⟨h5, h6⟩ := Bool.and_eq_true_iff.mp h4
    obtain ⟨p, hp, rfl⟩ := inSV_iff h3
    obtain ⟨q, hq, rfl⟩ := inSV_iff h5
    obtain ⟨i, rfl⟩ := intV_iff h6
    exact ⟨⟨p, q, i⟩, rfl, hp, hq⟩
structure StI (xs : List V) (i : Nat) (ls : List (List Nat)) : Prop where
  t : xs.take i = ls.map vS
  n : ∀ l ∈ ls, isName l
  d : ls.Nodup
  b : ∀ k, k < i → stBad xs k = false
  l : i ≤ 6
section
variable {xs : List V} {i : Nat} {ls : List (List Nat)} {x : V} {l : List Nat}
theorem StI.zero : StI xs 0 [] := ⟨rfl, by simp, .nil, by simp, by simp⟩
theorem st_bad6 : stBad xs 6 = true := rfl
theorem st_badN (h : xs[i]? = some x) (hn : nameV x = false) : stBad xs i = true := by unfold stBad; rw [getD_of h, hn]; simp
theorem StI.badM (I : StI xs i ls) (h : xs[i]? = some (vS l)) (hm : l ∈ ls) : stBad xs i = true := by
  unfold stBad
  rw [getD_of h, I.t, decide_eq_true (mem_vS.mpr hm)]
  simp
theorem nodup_app {α : Type} {ls : List α} {l : α} (h : ls.Nodup) (hm : l ∉ ls) : (ls ++ [l]).Nodup := by
  rw [List.nodup_append]
  exact ⟨h, by simp, fun a ha b hb e => hm (by rw [List.mem_singleton.mp hb] at e; rw [← e]; exact ha)⟩
theorem StI.next (I : StI xs i ls) (h : xs[i]? = some (vS l)) (hi : i ≠ 6) (hn : isName l) (hm : l ∉ ls) : StI xs (i + 1) (ls ++ [l]) := by
  refine ⟨?_, ?_, nodup_app I.d hm, ?_, by have := I.l; omega⟩
  · rw [take_of h, I.t, List.map_append]; rfl
  · intro a ha
    rcases List.mem_append.mp ha with ha | ha
    · exact I.n a ha
    · rw [List.mem_singleton.mp ha]; exact hn
  · intro k hk
    by_cases e : k = i
    · subst e
      unfold stBad
      rw [getD_of h, I.t, nameV_S, nameB_iff.mpr hn, decide_eq_false hi, decide_eq_false (fun z => hm (mem_vS.mp z))]
      rfl
    · exact I.b k (by omega)
theorem StI.done (I : StI xs xs.length ls) : xs = ls.map vS := by rw [← I.t, List.take_length]
end
structure RwI (s : List Nat) (st : List (List Nat)) (ds : List (Option (List V))) (i : Nat) (rs : List Rw) : Prop where
  t : ds.take i = rs.map fun r => some (rwV r)
  g : ∀ r ∈ rs, r.a ∈ st ∧ r.c ∈ s ∧ r.b ∈ st
  d : (rs.map fun r => (r.a, r.c)).Nodup
  b : ∀ k, k < i → rowBad s st ds k = false
theorem keyOf_rw {r : Rw} : keyOf (some (rwV r)) = [vS r.a, vS [r.c]] := rfl
theorem mem_keys {a : List Nat} {c : Nat} {rs : List Rw} : [vS a, vS [c]] ∈ (rs.map fun r => some (rwV r)).map keyOf ↔ (a, c) ∈ rs.map fun r => (r.a, r.c) := by
  rw [List.map_map, List.mem_map, List.mem_map]
  constructor
  · rintro ⟨r, h, e⟩
    have e : [vS r.a, vS [r.c]] = [vS a, vS [c]] := e
    have e1 := vS_eq.mp (List.cons.inj e).1
    have e2 := vS_eq.mp (List.cons.inj (List.cons.inj e).2).1
    exact ⟨r, h, by rw [e1, (List.cons.inj e2).1]⟩
  · rintro ⟨r, h, e⟩
    refine ⟨r, h, ?_⟩
    show [vS r.a, vS [r.c]] = _
    cases e
    rfl
section
variable {s : List Nat} {st : List (List Nat)} {ds : List (Option (List V))} {i : Nat} {rs : List Rw} {r : Rw} {d : Option (List V)}
theorem RwI.zero : RwI s st ds 0 [] := ⟨rfl, by simp, .nil, by simp⟩
theorem rw_badS (h : ds[i]? = some d) (hs : stepO s st d = false) : rowBad s st ds i = true := by unfold rowBad; rw [getD_of h, hs]; rfl
theorem RwI.badM (I : RwI s st ds i rs) (h : ds[i]? = some (some (rwV r))) (hm : (r.a, r.c) ∈ rs.map fun r => (r.a, r.c)) : rowBad s st ds i = true := by
  unfold rowBad
  rw [getD_of h, I.t, keyOf_rw, decide_eq_true (mem_keys.mpr hm)]
  simp
theorem RwI.next (I : RwI s st ds i rs) (h : ds[i]? = some (some (rwV r))) (hs : stepO s st (some (rwV r)) = true) (hg : r.a ∈ st ∧ r.c ∈ s ∧ r.b ∈ st) (hm : (r.a, r.c) ∉ rs.map fun r => (r.a, r.c)) : RwI s st ds (i + 1) (rs ++ [r]) := by
  refine ⟨?_, ?_, ?_, ?_⟩
  · rw [take_of h, I.t, List.map_append]; rfl
  · intro a ha
    rcases List.mem_append.mp ha with ha | ha
    · exact I.g a ha
    · rw [List.mem_singleton.mp ha]; exact hg
  · rw [List.map_append]
    exact nodup_app I.d hm
  · intro k hk
    by_cases e : k = i
    · subst e
      unfold rowBad
      rw [getD_of h, I.t, hs, keyOf_rw, decide_eq_false (fun z => hm (mem_keys.mp z))]
      rfl
    · exact I.b k (by omega)
theorem RwI.done (I : RwI s st ds ds.length rs) : ds = rs.map fun r => some (rwV r) := by rw [← I.t, List.take_length]
end
structure EnI (st : List (List Nat)) (ds : List (Option (List V))) (i : Nat) (ts : List Tn) : Prop where
  t : ds.take i = ts.map fun t => some (tnV t)
  g : ∀ t ∈ ts, t.a ∈ st ∧ t.b ∈ st
  d : (ts.map fun t => t.a).Nodup
  b : ∀ k, k < i → endBad st ds k = false
theorem headOf_tn {t : Tn} : headOf (some (tnV t)) = vS t.a := rfl
theorem mem_heads {a : List Nat} {ts : List Tn} : vS a ∈ (ts.map fun t => some (tnV t)).map headOf ↔ a ∈ ts.map fun t => t.a := by
  rw [List.map_map, List.mem_map, List.mem_map]
  constructor
  · rintro ⟨t, h, e⟩
    exact ⟨t, h, vS_eq.mp e⟩
  · rintro ⟨t, h, e⟩
    exact ⟨t, h, by show vS t.a = vS a; rw [e]⟩
section
variable {st : List (List Nat)} {ds : List (Option (List V))} {i : Nat} {ts : List Tn} {t : Tn} {d : Option (List V)}
theorem EnI.zero : EnI st ds 0 [] := ⟨rfl, by simp, .nil, by simp⟩
theorem en_badS (h : ds[i]? = some d) (hs : endO st d = false) : endBad st ds i = true := by unfold endBad; rw [getD_of h, hs]; rfl
theorem EnI.badM (I : EnI st ds i ts) (h : ds[i]? = some (some (tnV t))) (hm : t.a ∈ ts.map fun t => t.a) : endBad st ds i = true := by
  unfold endBad
  rw [getD_of h, I.t, headOf_tn, decide_eq_true (mem_heads.mpr hm)]
  simp
theorem EnI.next (I : EnI st ds i ts) (h : ds[i]? = some (some (tnV t))) (hs : endO st (some (tnV t)) = true) (hg : t.a ∈ st ∧ t.b ∈ st) (hm : t.a ∉ ts.map fun t => t.a) : EnI st ds (i + 1) (ts ++ [t]) := by
  refine ⟨?_, ?_, ?_, ?_⟩
  · rw [take_of h, I.t, List.map_append]; rfl
  · intro a ha
    rcases List.mem_append.mp ha with ha | ha
    · exact I.g a ha
    · rw [List.mem_singleton.mp ha]; exact hg
  · rw [List.map_append]
    exact nodup_app I.d hm
  · intro k hk
    by_cases e : k = i
    · subst e
      unfold endBad
      rw [getD_of h, I.t, hs, headOf_tn, decide_eq_false (fun z => hm (mem_heads.mp z))]
      rfl
    · exact I.b k (by omega)
theorem EnI.done (I : EnI st ds ds.length ts) : ds = ts.map fun t => some (tnV t) := by rw [← I.t, List.take_length]
theorem EnI.le (I : EnI st ds i ts) (h : st.length ≤ 6) : ts.length ≤ 6 := by
  have := nodup_le _ st I.d fun a ha => by obtain ⟨t, h1, rfl⟩ := List.mem_map.mp ha; exact (I.g t h1).1
  rw [List.length_map] at this
  omega
end
structure YeI (st : List (List Nat)) (xs : List V) (i : Nat) (ls : List (List Nat)) : Prop where
  t : xs.take i = ls.map vS
  n : ∀ l ∈ ls, l ∈ st
  d : ls.Nodup
  b : ∀ k, k < i → yesBad st xs k = false
section
variable {st : List (List Nat)} {xs : List V} {i : Nat} {ls : List (List Nat)} {x : V} {l : List Nat}
theorem YeI.zero : YeI st xs 0 [] := ⟨rfl, by simp, .nil, by simp⟩
theorem ye_badN (h : xs[i]? = some x) (hn : inSV st x = false) : yesBad st xs i = true := by unfold yesBad; rw [getD_of h, hn]; rfl
theorem YeI.badM (I : YeI st xs i ls) (h : xs[i]? = some (vS l)) (hm : l ∈ ls) : yesBad st xs i = true := by
  unfold yesBad
  rw [getD_of h, I.t, decide_eq_true (mem_vS.mpr hm)]
  simp
theorem YeI.next (I : YeI st xs i ls) (h : xs[i]? = some (vS l)) (hn : l ∈ st) (hm : l ∉ ls) : YeI st xs (i + 1) (ls ++ [l]) := by
  refine ⟨?_, ?_, nodup_app I.d hm, ?_⟩
  · rw [take_of h, I.t, List.map_append]; rfl
  · intro a ha
    rcases List.mem_append.mp ha with ha | ha
    · exact I.n a ha
    · rw [List.mem_singleton.mp ha]; exact hn
  · intro k hk
    by_cases e : k = i
    · subst e
      unfold yesBad
      rw [getD_of h, I.t, inSV_S, decide_eq_true hn, decide_eq_false (fun z => hm (mem_vS.mp z))]
      rfl
    · exact I.b k (by omega)
theorem YeI.done (I : YeI st xs xs.length ls) : xs = ls.map vS := by rw [← I.t, List.take_length]
end
theorem flat_len {st : List (List Nat)} : ∀ {s : List Nat}, (s.flatMap fun c => st.map fun a => (a, c)).length = s.length * st.length
  | [] => by simp
  | c :: s => by
    rw [List.flatMap_cons, List.length_append, flat_len (s := s)]
    simp only [List.length_map, List.length_cons, Nat.add_mul]
    omega
theorem stDue_ok {d : Option (List V)} (h : stDue d = none) : ∃ ls, d = some (ls.map vS) ∧ goodSt ls := by
  match d, h with
  | some xs, h =>
    unfold stDue at h
    by_cases h0 : xs.length = 0
    · simp only [h0, if_true] at h; cases h
    simp only [if_neg h0, Option.map_eq_none_iff] at h
    have al := firstB_all h
    have : ∀ i, i ≤ xs.length → ∃ ls, StI xs i ls := by
      intro i
      induction i with
      | zero => exact fun _ => ⟨[], .zero⟩
      | succ i ih =>
        intro hi
        obtain ⟨ls, I⟩ := ih (by omega)
        have hb := al i (by omega)
        have hx : xs[i]? = some xs[i] := List.getElem?_eq_getElem (by omega)
        have h6 : i ≠ 6 := fun e => by subst e; rw [st_bad6] at hb; cases hb
        cases hn : nameV xs[i] with
        | false => rw [st_badN hx hn] at hb; cases hb
        | true =>
          obtain ⟨l, hl, hn⟩ := nameV_iff hn
          rw [hl] at hx
          exact ⟨_, I.next hx h6 hn fun z => by rw [I.badM hx z] at hb; cases hb⟩
    obtain ⟨ls, I⟩ := this xs.length (Nat.le_refl _)
    have e := I.done
    have hl : xs.length = ls.length := by rw [e, List.length_map]
    exact ⟨ls, by rw [← e], by omega, by have := I.l; omega, I.d, I.n⟩
theorem rowsDue_ok {s : List Nat} {st : List (List Nat)} {d : Option (List (Option (List V)))} (h : rowsDue s st d = none) (hs : goodS s) (hst : goodSt st) : ∃ rs, d = some (rs.map fun r => some (rwV r)) ∧ goodRws s st rs := by
  match d, h with
  | some ds, h =>
    unfold rowsDue at h
    simp only at h
    cases hf : firstB (rowBad s st ds) ds.length with
    | some i => rw [hf] at h; cases h
    | none =>
      rw [hf] at h
      simp only at h
      by_cases hl : ds.length < s.length * st.length
      · rw [if_pos hl] at h; cases h
      have al := firstB_all hf
      have : ∀ i, i ≤ ds.length → ∃ rs, RwI s st ds i rs := by
        intro i
        induction i with
        | zero => exact fun _ => ⟨[], .zero⟩
        | succ i ih =>
          intro hi
          obtain ⟨rs, I⟩ := ih (by omega)
          have hb := al i (by omega)
          have hx : ds[i]? = some ds[i] := List.getElem?_eq_getElem (by omega)
          cases hn : stepO s st ds[i] with
          | false => rw [rw_badS hx hn] at hb; cases hb
          | true =>
            obtain ⟨r, hr, hg⟩ := stepO_true hn
            rw [hr] at hx hn
            exact ⟨_, I.next hx hn hg fun z => by rw [I.badM hx z] at hb; cases hb⟩
      obtain ⟨rs, I⟩ := this ds.length (Nat.le_refl _)
      have e := I.done
      have hl2 : ds.length = rs.length := by rw [e, List.length_map]
      refine ⟨rs, by rw [← e], I.g, I.d, ?_⟩
      have h1 := nodup_le _ ((s.flatMap fun c => st.map fun a => (a, c))) I.d fun z hz => by
        obtain ⟨r, hr, rfl⟩ := List.mem_map.mp hz
        obtain ⟨g1, g2, g3⟩ := I.g r hr
        exact List.mem_flatMap.mpr ⟨r.c, g2, List.mem_map.mpr ⟨r.a, g1, rfl⟩⟩
      have h2 := flat_len (s := s) (st := st)
      rw [List.length_map, h2] at h1
      omega
theorem endsDue_ok {st : List (List Nat)} {d : Option (List (Option (List V)))} (h : endsDue st d = none) : ∃ ts, d = some (ts.map fun t => some (tnV t)) ∧ goodTns st ts := by
  match d, h with
  | some ds, h =>
    unfold endsDue at h
    simp only [Option.map_eq_none_iff] at h
    have al := firstB_all h
    have : ∀ i, i ≤ ds.length → ∃ ts, EnI st ds i ts := by
      intro i
      induction i with
      | zero => exact fun _ => ⟨[], .zero⟩
      | succ i ih =>
        intro hi
        obtain ⟨rs, I⟩ := ih (by omega)
        have hb := al i (by omega)
        have hx : ds[i]? = some ds[i] := List.getElem?_eq_getElem (by omega)
        cases hn : endO st ds[i] with
        | false => rw [en_badS hx hn] at hb; cases hb
        | true =>
          obtain ⟨r, hr, hg⟩ := endO_true hn
          rw [hr] at hx hn
          exact ⟨_, I.next hx hn hg fun z => by rw [I.badM hx z] at hb; cases hb⟩
    obtain ⟨rs, I⟩ := this ds.length (Nat.le_refl _)
    exact ⟨rs, by rw [← I.done], I.g, I.d⟩
theorem yesDue_ok {st : List (List Nat)} {d : Option (List V)} (h : yesDue st d = none) : ∃ ls, d = some (ls.map vS) ∧ goodYes st ls := by
  match d, h with
  | some xs, h =>
    unfold yesDue at h
    simp only [Option.map_eq_none_iff] at h
    have al := firstB_all h
    have : ∀ i, i ≤ xs.length → ∃ ls, YeI st xs i ls := by
      intro i
      induction i with
      | zero => exact fun _ => ⟨[], .zero⟩
      | succ i ih =>
        intro hi
        obtain ⟨ls, I⟩ := ih (by omega)
        have hb := al i (by omega)
        have hx : xs[i]? = some xs[i] := List.getElem?_eq_getElem (by omega)
        cases hn : inSV st xs[i] with
        | false => rw [ye_badN hx hn] at hb; cases hb
        | true =>
          obtain ⟨l, hl, hn⟩ := inSV_iff hn
          rw [hn] at hx
          exact ⟨_, I.next hx hl fun z => by rw [I.badM hx z] at hb; cases hb⟩
    obtain ⟨ls, I⟩ := this xs.length (Nat.le_refl _)
    exact ⟨ls, by rw [← I.done], I.n, I.d⟩
end WB
namespace WB
open PySem PySem.Spec PyProof.Rows L2 LamX
theorem l27a_114_111_119 : ("row" : Str) = S [114, 111, 119] := by decide +kernel
theorem l27a_116_117_114_110 : ("turn" : Str) = S [116, 117, 114, 110] := by decide +kernel
theorem l27a_98_101_103_105_110 : ("begin" : Str) = S [98, 101, 103, 105, 110] := by decide +kernel
def t_is_stepA (K : PySem.W.Frag) : TS :=
  (tSeq (tIfS (tOr (tNot (tB (tCall (sp_is_row K) [] E0 (tCons (tVar 0) (tCons (tC (.int 4)) tNil))))) (tOr (tNot (tB (tCall (sp_is_word K) [] E0 (tCons (tOp (rIxT K) (tVar 0) (tC (.int 1))) (tCons (tVar 1) tNil))))) (tTest (tOp rNe (tCB (rLenV K) (tCons (tOp (rIxT K) (tVar 0) (tC (.int 1))) tNil)) (tC (.int 1)))))) (tRet (tC (.bl false))) tNext)
  (tRet (tAndV (tOp (rInK K) (tOp (rIxT K) (tVar 0) (tC (.int 0))) (tVar 2)) (tAndV (tOp (rInK K) (tOp (rIxT K) (tVar 0) (tC (.int 2))) (tVar 2)) (tCall (sp_is_integer K) [] E0 (tCons (tOp (rIxT K) (tVar 0) (tC (.int 3))) tNil))))))
def t_is_turnA (K : PySem.W.Frag) : TS :=
  (tRet (tAndV (tCall (sp_is_row K) [] E0 (tCons (tVar 0) (tCons (tC (.int 3)) tNil))) (tAndV (tOp (rInK K) (tOp (rIxT K) (tVar 0) (tC (.int 0))) (tVar 1)) (tAndV (tOp (rInK K) (tOp (rIxT K) (tVar 0) (tC (.int 1))) (tVar 1)) (tCall (sp_is_integer K) [] E0 (tCons (tOp (rIxT K) (tVar 0) (tC (.int 2))) tNil))))))
section
variable {K : PySem.W.Frag} {vs : List V} {H : Hp} {Q : VK} {E : XK}
theorem stepV_len {s : List Nat} {st : List (List Nat)} {xs : List V} (h : xs.length ≠ 4) : stepV s st xs = false := by
  match xs, h with
  | [], _ => rfl
  | [_], _ => rfl
  | [_, _], _ => rfl
  | [_, _, _], _ => rfl
  | [_, _, _, _], h => exact absurd rfl h
  | _ :: _ :: _ :: _ :: _ :: _, _ => rfl
theorem endV_len {st : List (List Nat)} {xs : List V} (h : xs.length ≠ 3) : endV st xs = false := by
  match xs, h with
  | [], _ => rfl
  | [_], _ => rfl
  | [_, _], _ => rfl
  | [_, _, _], h => exact absurd rfl h
  | _ :: _ :: _ :: _ :: _, _ => rfl
def wordV (s : List Nat) : V → Bool
  | .str y => isWord y.cps.toList s
  | _ => false
theorem u_wordV {x : V} {s : List Nat} (h : ElK K H x) (k : ∀ H', Ex [] H H' → Q (.bl (wordV s x)) H') : sp_is_word K ([x, vS s] ++ []) H Q E := by
  cases h with
  | str l h => exact ⟨_, _, rfl, .inl ⟨l, rfl, h, fun H' e => k H' e⟩⟩
  | oth h =>
    obtain ⟨n, h1, h2, _⟩ := h.kd
    refine ⟨_, _, rfl, .inr ⟨n, h2, h1, ?_⟩⟩
    cases h <;> exact k H Ex.rfl
def lenV (d : Option (List V)) (n : Int) : Bool := match d with | some xs => decide ((xs.length : Int) = n) | none => false
theorem u_rowTh {v : V} {n : Int} {d : Option (List V)} (h : ThK K H v d) (k : Q (.bl (lenV d n)) H) : sp_is_row K ([v, .int n] ++ []) H Q E := by
  refine ⟨v, n, rfl, ?_⟩
  cases h with
  | tup h hl he => exact .inl ⟨_, _, rfl, h, k⟩
  | str l => exact .inr ⟨_, .str, by decide, k⟩
  | non => exact .inr ⟨_, .non, by decide, k⟩
  | bl b => exact .inr ⟨_, .bl, by decide, k⟩
  | int i => exact .inr ⟨_, .int, by decide, k⟩
  | lst h => exact .inr ⟨_, .lst h, by decide, k⟩
  | dict h => exact .inr ⟨_, .dict h, by decide, k⟩
theorem lenV_true {d : Option (List V)} {n : Int} (h : lenV d n = true) : ∃ xs, d = some xs ∧ (xs.length : Int) = n := by
  match d, h with
  | some xs, h => exact ⟨xs, rfl, of_decide_eq_true h⟩
theorem pure_is_stepA (h : sp_is_stepA K vs H Q E) : t_is_stepA K (E1 Q) (start ["row", "signs", "states"] vs) H := by
  obtain ⟨v, s, t, rfl, d, st, hv, ht, k⟩ := h
  show t_is_stepA K (E1 Q) [some v, some (vS s), some (.ref t)] H
  unfold t_is_stepA
  refine s_seq (s_ifS (s_or (s_not (s_tB (s_call (s_cons (s_var (v := v) rfl (s_cons (s_c (s_nil (u_rowTh hv ?_)))))))))))
  by_cases h4 : lenV d 4 = true
  rotate_left
  · rw [Bool.eq_false_iff.mpr h4]
    refine s_blQ (s_T rfl (s_T rfl (s_ret (s_c ?_))))
    have := k H Ex.rfl
    have e : stepO s st d = false := by
      match d, h4 with
      | none, _ => rfl
      | some xs, h4 => exact stepV_len fun e => h4 (decide_eq_true (by omega))
    rw [e] at this
    exact this
  rw [h4]
  refine s_blQ (s_F rfl ?_)
  obtain ⟨xs, rfl, h4⟩ := lenV_true h4
  have h4 : xs.length = 4 := by omega
  obtain ⟨p, rfl, hp, he⟩ : ∃ p, v = .ref p ∧ SqT K H p xs ∧ ∀ x ∈ xs, ElK K H x := by
    cases hv with
    | tup h hl he => exact ⟨_, rfl, h, he⟩
  clear hv
  obtain ⟨a, b, c, d, rfl⟩ : ∃ a b c d, xs = [a, b, c, d] := by
    match xs, h4 with
    | [a, b, c, d], _ => exact ⟨a, b, c, d, rfl⟩
  have ha := he a (by simp)
  have hb := he b (by simp)
  have hc := he c (by simp)
  have hd := he d (by simp)
  refine s_or (s_not (s_tB (s_call (s_cons (s_op (s_var (v := .ref p) rfl (s_c (s_ixT hp rfl (s_cons (s_var (v := vS s) rfl (s_nil (u_wordV hb fun H1 e1 => ?_))))))))))))
  have hp1 := e1.sqT (by simp) hp
  have ht1 := e1.sqT (by simp) ht
  have bad : sgV s b = false → (tRet (tC (.bl false))) (E1 Q) [some (.ref p), some (vS s), some (.ref t)] H1 := fun hs => by
    have := show Q (.bl (sgV s b && (inSV st a && (inSV st c && intV d)))) H1 from k H1 e1
    rw [hs, Bool.false_and] at this
    exact s_ret (s_c this)
  have good : sgV s b = true → tRet (tAndV (tOp (rInK K) (tOp (rIxT K) (tVar 0) (tC (.int 0))) (tVar 2)) (tAndV (tOp (rInK K) (tOp (rIxT K) (tVar 0) (tC (.int 2))) (tVar 2)) (tCall (sp_is_integer K) [] E0 (tCons (tOp (rIxT K) (tVar 0) (tC (.int 3))) tNil)))) (E1 Q) [some (.ref p), some (vS s), some (.ref t)] H1 := fun hs => by
    have kk := show Q (.bl (sgV s b && (inSV st a && (inSV st c && intV d)))) H1 from k H1 e1
    rw [hs, Bool.true_and] at kk
    refine s_ret (s_andV (s_op (s_op (s_var (v := .ref p) rfl (s_c (s_ixT hp1 rfl (s_var (v := .ref t) rfl (s_inK (ha.ex0 e1) (.inr ht1) ⟨_, rfl, ?_⟩))))))))
    cases h1 : inSV st a with
    | false => rw [h1] at kk; exact s_F rfl kk
    | true =>
      rw [h1, Bool.true_and] at kk
      refine s_T rfl (s_andV (s_op (s_op (s_var (v := .ref p) rfl (s_c (s_ixT hp1 (atI_of (by decide) rfl) (s_var (v := .ref t) rfl (s_inK (hc.ex0 e1) (.inr ht1) ⟨_, rfl, ?_⟩))))))))
      cases h2 : inSV st c with
      | false => rw [h2] at kk; exact s_F rfl kk
      | true =>
        rw [h2, Bool.true_and] at kk
        exact s_T rfl (s_call (s_cons (s_op (s_var (v := .ref p) rfl (s_c (s_ixT hp1 (atI_of (by decide) rfl) (s_nil (u_intEl (hd.ex0 e1) kk))))))))
  cases hb with
  | oth ho =>
    have e : wordV s b = false := by cases ho <;> rfl
    rw [e]
    exact s_blQ (s_T rfl (s_T rfl (bad ho.sg)))
  | str l hl =>
    show ∃ c, V.bl (isWord l s) = .bl c ∧ _
    cases hw : isWord l s with
    | false => exact s_blQ (s_T rfl (s_T rfl (bad (by rw [sgV_S, hw]; rfl))))
    | true =>
      refine s_blQ (s_F rfl (s_test (s_op (s_cb (s_cons (s_op (s_var (v := .ref p) rfl (s_c (s_ixT hp1 (atI_of (by decide) rfl) (s_nil (s_lenS (Nat.le_trans hl (by decide)) (s_c (s_neI (s_blQ ?_))))))))))))))
      by_cases h1 : (l.length : Int) = 1
      · exact s_nFd h1 (good (by rw [sgV_S, hw, decide_eq_true (by omega)]; rfl))
      · refine s_T (by rw [decide_eq_false h1]; rfl) (bad (by rw [sgV_S, hw, decide_eq_false (by omega)]; rfl))
theorem pure_is_turnA (h : sp_is_turnA K vs H Q E) : t_is_turnA K (E1 Q) (start ["turn", "states"] vs) H := by
  obtain ⟨v, t, rfl, d, st, hv, ht, k⟩ := h
  show t_is_turnA K (E1 Q) [some v, some (.ref t)] H
  unfold t_is_turnA
  have kk := k H Ex.rfl
  refine s_ret (s_andV (s_call (s_cons (s_var (v := v) rfl (s_cons (s_c (s_nil (u_rowTh hv ?_))))))))
  by_cases h4 : lenV d 3 = true
  rotate_left
  · rw [Bool.eq_false_iff.mpr h4]
    have e : endO st d = false := by
      match d, h4 with
      | none, _ => rfl
      | some xs, h4 => exact endV_len fun e => h4 (decide_eq_true (by omega))
    rw [e] at kk
    exact ⟨_, rfl, s_F rfl kk⟩
  rw [h4]
  obtain ⟨xs, rfl, h4⟩ := lenV_true h4
  have h4 : xs.length = 3 := by omega
  obtain ⟨p, rfl, hp, he⟩ : ∃ p, v = .ref p ∧ SqT K H p xs ∧ ∀ x ∈ xs, ElK K H x := by
    cases hv with
    | tup h hl he => exact ⟨_, rfl, h, he⟩
  clear hv
  obtain ⟨a, b, c, rfl⟩ : ∃ a b c, xs = [a, b, c] := by
    match xs, h4 with
    | [a, b, c], _ => exact ⟨a, b, c, rfl⟩
  refine ⟨_, rfl, s_T rfl (s_andV (s_op (s_op (s_var (v := .ref p) rfl (s_c (s_ixT hp rfl (s_var (v := .ref t) rfl (s_inK (he a (by simp)) (.inr ht) ⟨_, rfl, ?_⟩))))))))⟩
  have kk := show Q (.bl (inSV st a && (inSV st b && intV c))) H from kk
  cases h1 : inSV st a with
  | false => rw [h1] at kk; exact s_F rfl kk
  | true =>
    rw [h1, Bool.true_and] at kk
    refine s_T rfl (s_andV (s_op (s_op (s_var (v := .ref p) rfl (s_c (s_ixT hp (atI_of (by decide) rfl) (s_var (v := .ref t) rfl (s_inK (he b (by simp)) (.inr ht) ⟨_, rfl, ?_⟩))))))))
    cases h2 : inSV st b with
    | false => rw [h2] at kk; exact s_F rfl kk
    | true =>
      rw [h2, Bool.true_and] at kk
      exact s_T rfl (s_call (s_cons (s_op (s_var (v := .ref p) rfl (s_c (s_ixT hp (atI_of (by decide) rfl) (s_nil (u_intEl (he c (by simp)) kk))))))))
end
end WB
namespace WB
open PySem PySem.Spec PyProof.Rows L2 LamX
section
variable {K : PySem.W.Frag} {H H' H1 H2 : Hp} {Q : VK} {E : XK} {T : List (Addr × Str)}
theorem Tabs.updL {D : Addr} {o : HO} (hD : H D = none ∨ ∃ l, H D = some (.lst l)) (h : Tabs T H) : Tabs T (upd H D o) := fun p hp => by
  obtain ⟨ps, h1, h2, h3⟩ := h p hp
  have ne : ∀ b u, H b = some u → (∀ l, u ≠ .lst l) → b ≠ D := fun b u hb hu z => by
    rw [z] at hb
    rcases hD with hD | ⟨l, hD⟩
    · rw [hD] at hb; cases hb
    · rw [hD] at hb
      exact hu l (Option.some.inj hb).symm
  refine ⟨ps, by rw [upd_ne (ne _ _ h1 fun _ z => by cases z)]; exact h1, h2, fun pos cv hc => ?_⟩
  obtain ⟨c, e1, e2⟩ := h3 pos cv hc
  exact ⟨c, e1, by rw [upd_ne (ne _ _ e2 fun _ z => by unfold CodeO at z; cases z)]; exact e2⟩
theorem ExN.drop {p : Addr} {H3 : Hp} (hp : H p = none) (e1 : Ex [] H H1) (e2 : ExN [p] H1 H3) : ExN [] H H3 := fun b o n h z => e2 b o (fun w => by rw [List.mem_singleton.mp w, hp] at h; cases h) (e1 b o n h) z
theorem lc_tabs {n j : Nat} {lo : Int} {te : TE} {σ : St} (hn : n ≤ 1000) (hT : Tabs T H)
    (h : ∀ (i : Nat) (H1 : Hp) (C : VK), i < n → ExN [] H H1 → Tabs T H1 → (∀ H2, ExN [] H1 H2 → Tabs T H2 → C (.bl true) H2) → te ((wipe σ [j]).set j (some (.int (lo + i)))) H1 C)
    (k : ∀ D H', H' D = some (.lst ((List.range n).map fun _ => .bl true)) → Q (.ref D) H') : LcW (Itr lo n) (gName j) tYes te [j] σ H Q := by
  intro D hD
  have xU : ∀ {H1 : Hp} {o : HO}, ExN [] H H1 → ExN [] H (upd H1 D o) := fun {H1 o} e b u nb hb z => by
    rw [upd_ne (ne_of_none hb hD)]
    exact e b u nb hb z
  refine lc_it walk_range (fun i H1 => ExN [] H H1 ∧ Tabs T H1 ∧ H1 D = some (.lst ((List.range i).map fun _ => .bl true))) ⟨xU ExN.refl, Tabs.updL (.inl hD) hT, upd_same⟩ (fun _ _ _ _ => trivial) ?_ ?_
  · rintro i x H1 H2 hi ⟨e, hT1, hd⟩ ⟨rfl, rfl⟩
    refine ⟨wipe1 _ _ _, ?_⟩
    refine s_yes ?_
    refine s_T rfl ?_
    refine h i H2 _ hi e hT1 fun H5 e5 hT5 => ?_
    have hd5 : H5 D = some (.lst ((List.range i).map fun _ => .bl true)) := e5 D _ (by simp) hd fun _ z => by cases z
    refine ⟨_, hd5, by simp; exact Nat.lt_of_lt_of_le hi (Nat.le_trans hn (by decide)), xU (e.trans e5), Tabs.updL (.inr ⟨_, hd5⟩) hT5, ?_⟩
    rw [upd_same, List.range_succ, List.map_append]
    rfl
  · rintro H1 ⟨e, hT1, hd⟩
    exact k D H1 hd
end
end WB
namespace WB
open PySem PySem.Spec PyProof.Rows L2
theorem lx_116_117_112_108_101 : ("tuple" : Str) = S [116, 117, 112, 108, 101] := by decide +kernel
theorem lx_108_105_115_116 : ("list" : Str) = S [108, 105, 115, 116] := by decide +kernel
theorem lx_100_105_99_116 : ("dict" : Str) = S [100, 105, 99, 116] := by decide +kernel
theorem lx_116_114_117_116_104 : ("truth" : Str) = S [116, 114, 117, 116, 104] := by decide +kernel
theorem lx_112_108_97_105_110 : ("plain" : Str) = S [112, 108, 97, 105, 110] := by decide +kernel
local macro_rules | `(tactic| walk_at "lit") => `(tactic| first | exact lx_116_117_112_108_101 | exact lx_108_105_115_116 | exact lx_100_105_99_116 | exact lx_116_114_117_116_104 | exact lx_112_108_97_105_110)
local macro_rules | `(tactic| walk_at "lit") => `(tactic| first | exact lit_abc | exact lit_empty)
local macro_rules | `(tactic| walk_at "nm") => `(tactic| focus first | exact List.not_mem_nil | (simp only [List.mem_singleton]; first | assumption | (exact Ne.symm (by assumption)) | (intro hz; subst hz; simp_all; done)))
local macro_rules | `(tactic| walk_at "hp") => `(tactic| first | assumption | (apply Ex.get0 (by assumption); walk_at "hp") | (apply Ex.get (by assumption); (walk_at "nm"); (walk_at "hp")))
local macro_rules | `(tactic| walk_at "sq") => `(tactic| first | assumption | (apply SqL.of; walk_at "hp") | (apply Ex.sqL (by assumption); (walk_at "nm"); (walk_at "sq")))
local macro_rules | `(tactic| walk_at "sqt") => `(tactic| first | assumption | (apply SqT.of; walk_at "hp") | (apply Ex.sqT (by assumption); (walk_at "nm"); (walk_at "sqt")))
local macro_rules | `(tactic| walk_at "sz") => `(tactic| focus ((with_reducible refine Nat.le_trans (m := 100000) ?_ (by decide)); first | omega | (simp; done) | (simp; omega)))
local macro_rules | `(tactic| walk_at "mul") => `(tactic| first | exact Or.inr ⟨by omega, by omega⟩ | exact Or.inl ⟨by omega, by omega⟩)
local macro_rules | `(tactic| walk_at "pool") => `(tactic| first | assumption | (apply PoolAt.ex (by assumption); (walk_at "nm"); (walk_at "pool")))
local macro_rules | `(tactic| walk_at "ring") => `(tactic| first | assumption | (apply RingAt.ex (by assumption); (walk_at "nm"); (walk_at "ring")))
local macro_rules | `(tactic| walk_at "st") => `(tactic| first
  | with_reducible refine s_seq ?_
  | with_reducible refine s_asg ?_
  | with_reducible refine s_gName ?_
  | with_reducible refine s_ret ?_
  | with_reducible refine s_ifS ?_
  | with_reducible refine s_next ?_
  | with_reducible refine s_op ?_
  | ((with_reducible apply s_var); exact rfl)
  | ((with_reducible apply s_cS); (walk_at "lit"))
  | with_reducible refine s_c ?_
  | with_reducible refine s_cb ?_
  | with_reducible refine s_cons ?_
  | with_reducible refine s_nil ?_
  | with_reducible refine s_un ?_
  | with_reducible refine s_call ?_
  | with_reducible refine s_test ?_
  | with_reducible refine s_tB ?_
  | with_reducible refine s_blQ ?_
  | with_reducible refine s_not ?_
  | with_reducible refine s_and ?_
  | with_reducible refine s_or ?_
  | with_reducible refine s_andV ?_
  | with_reducible refine s_orV ?_
  | with_reducible refine s_notV ?_
  | with_reducible refine s_ifE ?_
  | with_reducible refine s_chain ?_
  | ((with_reducible refine s_T ?_ ?_); (with_reducible exact rfl))
  | with_reducible refine s_nT ?_
  | with_reducible refine s_nF ?_
  | ((with_reducible refine s_F ?_ ?_); (with_reducible exact rfl))
  | ((with_reducible refine s_T ?_ ?_); assumption)
  | ((with_reducible refine s_F ?_ ?_); assumption)
  | ((with_reducible refine s_nB ?_ ?_); assumption)
  | ((with_reducible refine s_nA ?_ ?_); assumption)
  | ((with_reducible refine s_Td ?_ ?_); omega)
  | ((with_reducible refine s_Fd ?_ ?_); omega)
  | ((with_reducible refine s_nTd ?_ ?_); omega)
  | ((with_reducible refine s_nFd ?_ ?_); omega)
  | with_reducible refine s_sfld ?_
  | with_reducible refine s_addI ?_
  | with_reducible refine s_subI ?_
  | ((with_reducible refine s_mulI ?_ ?_); (walk_at "mul"))
  | ((with_reducible refine s_divI ?_ ?_); exact ⟨by omega, by omega⟩)
  | ((with_reducible refine s_modI ?_ ?_); omega)
  | ((with_reducible refine s_powI ?_ ?_); exact ⟨by decide, by decide, by decide⟩)
  | with_reducible refine s_ltI ?_
  | with_reducible refine s_leI ?_
  | with_reducible refine s_gtI ?_
  | with_reducible refine s_geI ?_
  | with_reducible refine s_negI ?_
  | with_reducible refine s_absI ?_
  | with_reducible refine s_intI ?_
  | with_reducible refine s_min2 ?_
  | with_reducible refine s_max2 ?_
  | with_reducible refine s_eqI ?_
  | with_reducible refine s_neI ?_
  | with_reducible refine s_eqS ?_
  | with_reducible refine s_neS ?_
  | with_reducible refine s_inSg ?_
  | with_reducible refine s_notInSg ?_
  | ((with_reducible refine s_addS ?_ ?_); (walk_at "sz"))
  | ((with_reducible refine s_lenS ?_ ?_); (walk_at "sz"))
  | ((with_reducible apply s_lenL); (walk_at "sq"))
  | ((with_reducible apply s_lenT); (walk_at "sqt"))
  | ((with_reducible apply s_ixL); (walk_at "sq"); exact rfl)
  | ((with_reducible apply s_ixT); (walk_at "sqt"); exact rfl)
  | with_reducible refine s_gSub ?_
  | ((with_reducible apply s_setL); (walk_at "hp"); (exact rfl); (intro _ _ _))
  | ((with_reducible refine s_alloc ?_ ?_); (walk_at "sz"); (intro _ _ _ _ _))
  | ((with_reducible refine s_divmod ?_ ?_); (exact ⟨by omega, PyProof.noPylong_small (by omega)⟩); (intro _ _ _ _ _))
  | ((with_reducible apply s_gTup); (walk_at "sqt"); (exact rfl))
  | ((with_reducible apply s_gLst); (walk_at "sq"); (exact rfl))
  | with_reducible refine s_gCons ?_
  | with_reducible refine s_gNil ?_
  | with_reducible refine s_lc ?_
  | ((with_reducible apply s_cat); (walk_at "hp"); (walk_at "hp"); (walk_at "sz"); (intro _ _ _ _ _))
  | ((with_reducible apply s_slL); (walk_at "sq"); (intro _ _ _ _ _))
  | with_reducible refine s_for ?_
  | with_reducible refine s_rng1 ?_
  | ((with_reducible refine s_rng1i ?_ ?_); (constructor <;> omega))
  | with_reducible refine s_rng2 ?_
  | ((with_reducible refine s_rng2i ?_ ?_); (refine ⟨?_, ?_, ?_, ?_⟩ <;> omega))
  | with_reducible refine s_iStr ?_
  | with_reducible refine s_iStrS ?_
  | with_reducible refine s_iList ?_
  | ((with_reducible apply s_iListA); (walk_at "sq"))
  | with_reducible refine s_iTup ?_
  | ((with_reducible apply s_iTupA); (walk_at "sqt"))
  | with_reducible refine s_sl ?_
  | with_reducible refine s_noPart ?_
  | with_reducible refine s_part ?_
  | with_reducible refine s_int1 ?_
  | ((with_reducible refine s_slS ?_ ?_); (walk_at "sz"))
  | with_reducible refine s_tup ?_
  | with_reducible refine s_lst ?_
  | with_reducible refine s_par ?_
  | with_reducible refine s_pair ?_
  | with_reducible refine s_M1 ?_
  | with_reducible refine s_isStr ?_
  | with_reducible refine s_revS ?_
  | ((with_reducible refine s_revS1 ?_ ?_); (walk_at "sz"))
  | with_reducible refine s_fldE ?_
  | with_reducible refine s_propE ?_
  | ((with_reducible refine u_draw ?_ ?_ ?_ ?_); omega; omega; (walk_at "pool"); (intro _ _ _ _ _ _))
  | ((with_reducible refine u_pool ?_); (intro _ _ _ _ _))
  | with_reducible refine u_is_integer ?_
  | with_reducible refine s_isiII ?_
  | with_reducible refine s_isiIB ?_
  | with_reducible refine s_isiSS ?_
  | ((with_reducible apply u_fldRing); assumption; (walk_at "ring"))
  | ((with_reducible apply u_textP); (walk_at "ring"))
  | ((with_reducible apply u_strRing); (walk_at "ring"))
  | ((with_reducible apply u_eqRing); (walk_at "ring"); (walk_at "ring"))
  | ((with_reducible apply u_isiRing); assumption; (walk_at "ring"))
  | ((with_reducible refine u_is_word ?_ ?_); omega; (intro _ _))
  | ((with_reducible refine u_turnings ?_ ?_); omega; (intro _ _ _ _ _))
  | with_reducible refine s_makeE ?_
  | with_reducible refine s_methE ?_)
local macro_rules | `(tactic| walk_at "go") => `(tactic| repeat (walk_at "st"))
local macro_rules | `(tactic| walk_at "exs") => `(tactic| first | exact Ex.rfl | assumption | (apply Ex.snoc (by assumption); walk_at "exs") | (apply Ex.snocW (by assumption); walk_at "exs"))
local macro_rules | `(tactic| walk_at "kind") => `(tactic| first | assumption | (apply KindAt.ex0 (by assumption); (walk_at "kind")) | (apply KindAt.exP (by assumption) (by assumption); (walk_at "kind")))
local macro_rules | `(tactic| walk_at "st") => `(tactic| first
  | with_reducible refine s_lenSet ?_
  | with_reducible refine s_drop ?_
  | with_reducible refine s_bm ?_
  | with_reducible refine s_notN ?_
  | with_reducible refine s_isN ?_
  | ((with_reducible apply s_tyL); (walk_at "hp"))
  | with_reducible refine s_enumT ?_
  | ((with_reducible apply s_enumTA); (walk_at "sqt"))
  | with_reducible refine s_lc2 ?_)
def t_law_faceX (K : PySem.W.Frag) (n : Nat) : TS :=
  (tSeq (tIfS (tB (tCB (rIsi K) (tCons (tVar 0) (tCons (tC (.ty "tuple")) tNil)))) (tRet (tOp rCat (tLst (tCons (tC (.str "tuple")) tNil)) (tLc (iTup K (tVar 0)) (gName 1) tYes (tCall (sp_law_faceX K n) [] E0 (tCons (tVar 1) tNil)) [1]))) tNext)
  (tSeq (tIfS (tB (tCB (rIsi K) (tCons (tVar 0) (tCons (tC (.ty "list")) tNil)))) (tRet (tOp rCat (tLst (tCons (tC (.str "list")) tNil)) (tLc (iList K (tVar 0)) (gName 1) tYes (tCall (sp_law_faceX K n) [] E0 (tCons (tVar 1) tNil)) [1]))) tNext)
  (tSeq (tIfS (tB (tCB (rIsi K) (tCons (tVar 0) (tCons (tC (.ty "dict")) tNil)))) (tRet (tOp rCat (tLst (tCons (tC (.str "dict")) tNil)) (tLockE (tLc (iKeys (tVar 0)) (gName 2) tYes (tLst (tCons (tCall (sp_law_faceX K n) [] E0 (tCons (tVar 2) tNil)) (tCons (tCall (sp_law_faceX K n) [] E0 (tCons (tDGet (tVar 0) (tVar 2)) tNil)) tNil))) [2])))) tNext)
  (tRet (tLst (tCons (tIf (tB (tCB (rIsi K) (tCons (tVar 0) (tCons (tC (.ty "bool")) tNil)))) (tC (.str "truth")) (tC (.str "plain"))) (tCons (tVar 0) tNil)))))))
section
variable {K : PySem.W.Frag} {vs : List V} {H : Hp} {Q : VK} {E : XK}
theorem fr_pairX {F : Addr → Prop} {n : Nat} {r : Addr} {v : V} {d : PyData} (hs : Scal v d) (f : F r) (h : H r = some (.lst [vS (tagOf d), v])) : Fr F H (2 * n + 1) (.ref r) (faceX n d) := by
  rw [face_scalX hs]
  have ht := tag_plain hs
  refine Fr.le (n := 1) (by omega) (.inr ⟨r, _, _, rfl, rfl, f, h, rfl, fun i x e h1 h2 => ?_⟩)
  match i, h1, h2 with
  | 0, h1, h2 => cases h1; cases h2; exact .inr (.inr (.inr ⟨_, ht, rfl, rfl⟩))
  | 1, h1, h2 => cases h1; cases h2; exact hs
theorem fr_partsX {F : Addr → Prop} {m : Nat} {r : Addr} {t : List Nat} {ys : List V} {ds : List PyData} {g : PyData → PyData} (ht : plain t) (f : F r) (h : H r = some (.lst ([vS t] ++ ys))) (hl : ys.length = ds.length) (hf : ∀ (i : Nat) y e, ys[i]? = some y → ds[i]? = some e → Fr F H (m + 1) y (g e)) :
    Fr F H (m + 1 + 1) (.ref r) (.list (dS t :: ds.map g)) := by
  refine .inr ⟨r, _, _, rfl, rfl, f, h, by simp [hl], fun i x e h1 h2 => ?_⟩
  match i, h1, h2 with
  | 0, h1, h2 => cases h1; cases h2; exact .inl (.inr (.inr (.inr ⟨_, ht, rfl, rfl⟩)))
  | i + 1, h1, h2 =>
    rw [List.getElem?_cons_succ, List.getElem?_map] at h2
    obtain ⟨e', h3, rfl⟩ := Option.map_eq_some_iff.mp h2
    exact hf i x e' h1 h3
theorem pure_law_faceX {n : Nat} (h : sp_law_faceX K (n + 1) vs H Q E) : t_law_faceX K n (E1 Q) (start ["_law_thing", "_law_part", "_law_key"] vs) H := by
  obtain ⟨v, rfl, d, hd, k⟩ := h
  show t_law_faceX K n (E1 Q) [some v, none, none] H
  have scal : Scal v d → t_law_faceX K n (E1 Q) [some v, none, none] H := by
    intro hs
    have hs' := hs
    unfold t_law_faceX
    rcases hs with ⟨rfl, rfl⟩ | ⟨b, rfl, rfl⟩ | ⟨i, rfl, rfl⟩ | ⟨l, hl, rfl, rfl⟩
    · walk_at "go"
      refine s_isiK Kd.non (b := false) (by decide +kernel) ?_
      walk_at "go"
      refine s_isiK Kd.non (b := false) (by decide +kernel) ?_
      walk_at "go"
      refine s_isiK Kd.non (b := false) (by decide +kernel) ?_
      walk_at "go"
      refine s_isiK Kd.non (b := false) (by decide +kernel) ?_
      walk_at "go"
      rename_i r H' nr e h
      exact k r H' nr e (fr_pairX hs' nr h)
    · walk_at "go"
      refine s_isiK Kd.bl (b := false) (by decide +kernel) ?_
      walk_at "go"
      refine s_isiK Kd.bl (b := false) (by decide +kernel) ?_
      walk_at "go"
      refine s_isiK Kd.bl (b := false) (by decide +kernel) ?_
      walk_at "go"
      refine s_isiK Kd.bl (b := true) (by decide +kernel) ?_
      walk_at "go"
      rename_i r H' nr e h
      exact k r H' nr e (fr_pairX hs' nr h)
    · walk_at "go"
      refine s_isiK Kd.int (b := false) (by decide +kernel) ?_
      walk_at "go"
      refine s_isiK Kd.int (b := false) (by decide +kernel) ?_
      walk_at "go"
      refine s_isiK Kd.int (b := false) (by decide +kernel) ?_
      walk_at "go"
      rename_i r H' nr e h
      exact k r H' nr e (fr_pairX hs' nr h)
    · walk_at "go"
      refine s_isiK Kd.str (b := false) (by decide +kernel) ?_
      walk_at "go"
      refine s_isiK Kd.str (b := false) (by decide +kernel) ?_
      walk_at "go"
      refine s_isiK Kd.str (b := false) (by decide +kernel) ?_
      walk_at "go"
      refine s_isiK Kd.str (b := false) (by decide +kernel) ?_
      walk_at "go"
      rename_i r H' nr e h
      exact k r H' nr e (fr_pairX hs' nr h)
  cases n with
  | zero => exact scal hd
  | succ n =>
    rcases hd with hd | ⟨a, xs, ds, rfl, rfl, h1, hn, hl, h2⟩ | ⟨a, xs, ds, rfl, rfl, h1, hn, hl, h2⟩ | ⟨a, rfl, rfl, h1⟩ | ⟨a, y, e0, rfl, rfl, h1, h2⟩
    · exact scal hd
    · unfold t_law_faceX
      walk_at "go"
      refine s_isiK (Kd.tup h1) (b := true) (by decide +kernel) ?_
      walk_at "go"
      rename_i q1 H1 n1 e1 h3
      refine lc_facesX (ds := ds) (n := n) (walk_tup (xs := xs)) (fun H2 e2 => (e1.trans e2).sqT (by simp) h1) hn (by simp) hl (fun i x e hx he => Dx.ex e1 _ _ _ (h2 i x e hx he)) fun D H2 ys nD e2 hD hyl hf => ?_
      walk_at "go"
      rename_i p H3 np e3 hp
      have fr : H p = none := e1.free (e2.free np)
      refine k p H3 fr ((e1.trans e2).trans e3) (Fr.le (n := 2 * n + 2) (by omega) (fr_partsX plain_tags.1 fr hp hyl fun i y e hy he => ?_))
      exact Fr.mono (fun a h => e1.free h.1) (fun a zs _ ha => e3.get0 ha) _ _ _ (hf i y e hy he)
    · unfold t_law_faceX
      walk_at "go"
      refine s_isiK (Kd.lst h1) (b := false) (by decide +kernel) ?_
      walk_at "go"
      refine s_isiK (Kd.lst h1) (b := true) (by decide +kernel) ?_
      walk_at "go"
      rename_i q1 H1 n1 e1 h3
      refine lc_facesX (ds := ds) (n := n) (walk_list (xs := xs)) (fun H2 e2 => SqL.of ((e1.trans e2).get0 h1)) hn (by simp) hl (fun i x e hx he => Dx.ex e1 _ _ _ (h2 i x e hx he)) fun D H2 ys nD e2 hD hyl hf => ?_
      walk_at "go"
      rename_i p H3 np e3 hp
      have fr : H p = none := e1.free (e2.free np)
      refine k p H3 fr ((e1.trans e2).trans e3) (Fr.le (n := 2 * n + 2) (by omega) (fr_partsX plain_tags.2.1 fr hp hyl fun i y e hy he => ?_))
      exact Fr.mono (fun a h => e1.free h.1) (fun a zs _ ha => e3.get0 ha) _ _ _ (hf i y e hy he)
    · unfold t_law_faceX
      walk_at "go"
      refine s_isiK (Kd.dict h1) (b := false) (by decide +kernel) ?_
      walk_at "go"
      refine s_isiK (Kd.dict h1) (b := false) (by decide +kernel) ?_
      walk_at "go"
      refine s_isiK (Kd.dict h1) (b := true) (by decide +kernel) ?_
      walk_at "go"
      rename_i q1 H1 n1 e1 h3
      have ha := e1.get0 h1
      refine s_lockE ha fun od => ?_
      refine s_lc ?_
      refine s_iKeys ?_
      refine s_var rfl ?_
      refine ⟨a, od, rfl, .inl ⟨[], upd_same, ?_⟩⟩
      refine lc_none upd_same fun D hD => ?_
      have na : a ≠ D := fun z => by
        rw [z, upd_same] at hD
        cases hD
      have hD1 : H1 D = none := by
        rw [upd_ne (Ne.symm na)] at hD
        exact hD
      refine ⟨by rw [upd_ne na, upd_same], ?_⟩
      have e2 : Ex [] H1 (upd (upd (upd H1 a (.frz od (.dK []))) D (.lst [])) a (.dK [])) := lock_ex ha (Ex.new hD)
      have hDl : upd (upd (upd H1 a (.frz od (.dK []))) D (.lst [])) a (.dK []) D = some (.lst []) := by rw [upd_ne (Ne.symm na), upd_same]
      generalize upd (upd (upd H1 a (.frz od (.dK []))) D (.lst [])) a (.dK []) = H2 at e2 hDl ⊢
      walk_at "go"
      rename_i p H3 np e3 hp
      have fr : H p = none := e1.free (e2.free np)
      exact k p H3 fr ((e1.trans e2).trans e3) (Fr.le (n := 0 + 1 + 1) (by omega) (fr_partsX (g := fun e => e) (ds := []) plain_dict fr hp rfl (by simp)))
    · unfold t_law_faceX
      walk_at "go"
      refine s_isiK (Kd.dict h1) (b := false) (by decide +kernel) ?_
      walk_at "go"
      refine s_isiK (Kd.dict h1) (b := false) (by decide +kernel) ?_
      walk_at "go"
      refine s_isiK (Kd.dict h1) (b := true) (by decide +kernel) ?_
      walk_at "go"
      rename_i q1 H1 n1 e1 h3
      have ha := e1.get0 h1
      refine s_lockE ha fun od => ?_
      refine s_lc ?_
      refine s_iKeys ?_
      refine s_var rfl ?_
      refine ⟨a, od, rfl, .inl ⟨[(kA, y)], upd_same, ?_⟩⟩
      refine lc_one upd_same fun D hD C kC => ?_
      have na : a ≠ D := fun z => by
        rw [z, upd_same] at hD
        cases hD
      have hD1 : H1 D = none := by
        rw [upd_ne (Ne.symm na)] at hD
        exact hD
      have hDa : upd (upd H1 a (.frz od (.dK [(kA, y)]))) D (.lst []) a = some (.frz od (.dK [(kA, y)])) := by rw [upd_ne na, upd_same]
      have hDl : upd (upd H1 a (.frz od (.dK [(kA, y)]))) D (.lst []) D = some (.lst []) := upd_same
      have hy : Dd K (upd (upd H1 a (.frz od (.dK [(kA, y)]))) D (.lst [])) n y e0 := Dd.ex (Ex.new hD) _ _ _ (Dd.lock ha _ _ _ (Dd.ex e1 _ _ _ h2))
      have eF : Ex [] (upd H1 a (.frz od (.dK [(kA, y)]))) (upd (upd H1 a (.frz od (.dK [(kA, y)]))) D (.lst [])) := Ex.new hD
      generalize upd (upd H1 a (.frz od (.dK [(kA, y)]))) D (.lst []) = H2 at hDa hDl hy eF ⊢
      walk_at "go"
      refine u_faceX (d := dS [97]) (Dd.dx _ _ _ ?_) fun r1 H3 nr1 e3 f1 => ?_
      · cases n with
        | zero => exact .inr (.inr (.inr ⟨[97], plain_a, rfl, rfl⟩))
        | succ n => exact .inl (.inr (.inr (.inr ⟨[97], plain_a, rfl, rfl⟩)))
      walk_at "go"
      refine s_var rfl ?_
      refine s_var rfl ?_
      refine ⟨a, y, rfl, .inl ⟨[(kA, y)], kA, .inr ⟨od, e3.get0 hDa⟩, rfl, rfl⟩, ?_⟩
      walk_at "go"
      refine u_faceX (d := e0) (Dx.ex e3 _ _ _ (Dd.dx _ _ _ hy)) fun r2 H4 nr2 e4 f2 => ?_
      walk_at "go"
      rename_i r3 H5 nr3 e5 hr3
      have eD : Ex [] H2 H5 := (e3.trans e4).trans e5
      refine kC _ _ (eD.get0 hDl) (eD.get0 hDa) ?_
      have nD : H2 D ≠ none := by rw [hDl]; simp
      have n3 : r3 ≠ D := fun z => nD (z ▸ (e3.trans e4).free nr3)
      have e6 : Ex [] H1 (upd (upd H5 D (.lst [.ref r3])) a (.dK [(kA, y)])) := by
        refine lock_ex (f := .frz od (.dK [(kA, y)])) ha ?_
        intro b o nb hb
        rw [upd_ne (ne_of_none hb hD)]
        exact eD b o nb (eF b o nb hb)
      refine ⟨by rw [upd_ne na]; exact eD.get0 hDa, ?_⟩
      have nDa : D ≠ a := Ne.symm na
      have hD6 : upd (upd H5 D (.lst [.ref r3])) a (.dK [(kA, y)]) D = some (.lst [.ref r3]) := by rw [upd_ne nDa, upd_same]
      have keep : ∀ c zs, H2 c = none → H5 c = some (.lst zs) → upd (upd H5 D (.lst [.ref r3])) a (.dK [(kA, y)]) c = some (.lst zs) := fun c zs hc h5 => by
        have c1 : c ≠ a := fun z => by rw [z, hDa] at hc; cases hc
        have c2 : c ≠ D := fun z => nD (by rw [← z]; exact hc)
        rw [upd_ne c1, upd_ne c2]
        exact h5
      have h13 : ∀ c, H2 c = none → H c = none := fun c hc => by
        have h' := eF.free hc
        by_cases hca : c = a
        · rw [hca, upd_same] at h'
          cases h'
        · rw [upd_ne hca] at h'
          exact e1.free h'
      have hr3' := keep r3 _ ((e3.trans e4).free nr3) hr3
      have g1 := Fr.mono (F' := fun c => H2 c = none) (fun c h => h) (fun c zs hc h => keep c zs hc (e5.get0 (e4.get0 h))) _ _ _ f1
      have g2 := Fr.mono (F' := fun c => H2 c = none) (fun c h => e3.free h) (fun c zs hc h => keep c zs (e3.free hc) (e5.get0 h)) _ _ _ f2
      generalize upd (upd H5 D (.lst [.ref r3])) a (.dK [(kA, y)]) = H6 at e6 hD6 hr3' g1 g2 ⊢
      walk_at "go"
      rename_i p H7 np e7 hp
      have fr : H p = none := e1.free (e6.free np)
      refine k p H7 fr ((e1.trans e6).trans e7) ?_
      refine fr_partsX (m := 2 * n + 1) (g := fun z => z) (ds := [.list [faceX n (dS [97]), faceX n e0]]) plain_dict fr hp rfl fun i z w h5 h6 => ?_
      match i, h5, h6 with
      | 0, h5, h6 =>
        cases h5; cases h6
        refine .inr ⟨r3, _, _, rfl, rfl, h13 _ ((e3.trans e4).free nr3), e7.get0 hr3', rfl, fun j z w h8 h9 => ?_⟩
        match j, h8, h9 with
        | 0, h8, h9 => cases h8; cases h9; exact Fr.mono (fun c h => h13 c h) (fun c zs _ h => e7.get0 h) _ _ _ g1
        | 1, h8, h9 => cases h8; cases h9; exact Fr.mono (fun c h => h13 c h) (fun c zs _ h => e7.get0 h) _ _ _ g2
end
end WB
namespace WB
open PySem PySem.Spec PyProof.Rows L2 LamX
theorem l27b_114_111_119 : ("row" : Str) = S [114, 111, 119] := by decide +kernel
theorem l27b_116_117_114_110 : ("turn" : Str) = S [116, 117, 114, 110] := by decide +kernel
theorem l27b_98_101_103_105_110 : ("begin" : Str) = S [98, 101, 103, 105, 110] := by decide +kernel
theorem l27b_99_104_97_110_103_101_115 : ("changes" : Str) = S [99, 104, 97, 110, 103, 101, 115] := by decide +kernel
theorem l27b_108_111_111_112 : ("loop" : Str) = S [108, 111, 111, 112] := by decide +kernel
local macro_rules | `(tactic| walk_at "lit") => `(tactic| first | exact l27b_114_111_119 | exact l27b_116_117_114_110 | exact l27b_98_101_103_105_110 | exact l27b_99_104_97_110_103_101_115 | exact l27b_108_111_111_112)
local macro_rules | `(tactic| walk_at "lit") => `(tactic| first | exact lit_abc | exact lit_empty)
local macro_rules | `(tactic| walk_at "nm") => `(tactic| focus first | exact List.not_mem_nil | (simp only [List.mem_singleton]; first | assumption | (exact Ne.symm (by assumption)) | (intro hz; subst hz; simp_all; done)))
local macro_rules | `(tactic| walk_at "hp") => `(tactic| first | assumption | (apply Ex.get0 (by assumption); walk_at "hp") | (apply Ex.get (by assumption); (walk_at "nm"); (walk_at "hp")))
local macro_rules | `(tactic| walk_at "sq") => `(tactic| first | assumption | (apply SqL.of; walk_at "hp") | (apply Ex.sqL (by assumption); (walk_at "nm"); (walk_at "sq")))
local macro_rules | `(tactic| walk_at "sqt") => `(tactic| first | assumption | (apply SqT.of; walk_at "hp") | (apply Ex.sqT (by assumption); (walk_at "nm"); (walk_at "sqt")))
local macro_rules | `(tactic| walk_at "sz") => `(tactic| focus ((with_reducible refine Nat.le_trans (m := 100000) ?_ (by decide)); first | omega | (simp; done) | (simp; omega)))
local macro_rules | `(tactic| walk_at "mul") => `(tactic| first | exact Or.inr ⟨by omega, by omega⟩ | exact Or.inl ⟨by omega, by omega⟩)
local macro_rules | `(tactic| walk_at "pool") => `(tactic| first | assumption | (apply PoolAt.ex (by assumption); (walk_at "nm"); (walk_at "pool")))
local macro_rules | `(tactic| walk_at "ring") => `(tactic| first | assumption | (apply RingAt.ex (by assumption); (walk_at "nm"); (walk_at "ring")))
local macro_rules | `(tactic| walk_at "st") => `(tactic| first
  | with_reducible refine s_seq ?_
  | with_reducible refine s_asg ?_
  | with_reducible refine s_gName ?_
  | with_reducible refine s_ret ?_
  | with_reducible refine s_ifS ?_
  | with_reducible refine s_next ?_
  | with_reducible refine s_op ?_
  | ((with_reducible apply s_var); exact rfl)
  | ((with_reducible apply s_cS); (walk_at "lit"))
  | with_reducible refine s_c ?_
  | with_reducible refine s_cb ?_
  | with_reducible refine s_cons ?_
  | with_reducible refine s_nil ?_
  | with_reducible refine s_un ?_
  | with_reducible refine s_call ?_
  | with_reducible refine s_test ?_
  | with_reducible refine s_tB ?_
  | with_reducible refine s_blQ ?_
  | with_reducible refine s_not ?_
  | with_reducible refine s_and ?_
  | with_reducible refine s_or ?_
  | with_reducible refine s_andV ?_
  | with_reducible refine s_orV ?_
  | with_reducible refine s_notV ?_
  | with_reducible refine s_ifE ?_
  | with_reducible refine s_chain ?_
  | ((with_reducible refine s_T ?_ ?_); (with_reducible exact rfl))
  | with_reducible refine s_nT ?_
  | with_reducible refine s_nF ?_
  | ((with_reducible refine s_F ?_ ?_); (with_reducible exact rfl))
  | ((with_reducible refine s_T ?_ ?_); assumption)
  | ((with_reducible refine s_F ?_ ?_); assumption)
  | ((with_reducible refine s_nB ?_ ?_); assumption)
  | ((with_reducible refine s_nA ?_ ?_); assumption)
  | ((with_reducible refine s_Td ?_ ?_); omega)
  | ((with_reducible refine s_Fd ?_ ?_); omega)
  | ((with_reducible refine s_nTd ?_ ?_); omega)
  | ((with_reducible refine s_nFd ?_ ?_); omega)
  | with_reducible refine s_sfld ?_
  | with_reducible refine s_addI ?_
  | with_reducible refine s_subI ?_
  | ((with_reducible refine s_mulI ?_ ?_); (walk_at "mul"))
  | ((with_reducible refine s_divI ?_ ?_); exact ⟨by omega, by omega⟩)
  | ((with_reducible refine s_modI ?_ ?_); omega)
  | ((with_reducible refine s_powI ?_ ?_); exact ⟨by decide, by decide, by decide⟩)
  | with_reducible refine s_ltI ?_
  | with_reducible refine s_leI ?_
  | with_reducible refine s_gtI ?_
  | with_reducible refine s_geI ?_
  | with_reducible refine s_negI ?_
  | with_reducible refine s_absI ?_
  | with_reducible refine s_intI ?_
  | with_reducible refine s_min2 ?_
  | with_reducible refine s_max2 ?_
  | with_reducible refine s_eqI ?_
  | with_reducible refine s_neI ?_
  | with_reducible refine s_eqS ?_
  | with_reducible refine s_neS ?_
  | with_reducible refine s_inSg ?_
  | with_reducible refine s_notInSg ?_
  | ((with_reducible refine s_addS ?_ ?_); (walk_at "sz"))
  | ((with_reducible refine s_lenS ?_ ?_); (walk_at "sz"))
  | ((with_reducible apply s_lenL); (walk_at "sq"))
  | ((with_reducible apply s_lenT); (walk_at "sqt"))
  | ((with_reducible apply s_ixL); (walk_at "sq"); exact rfl)
  | ((with_reducible apply s_ixT); (walk_at "sqt"); exact rfl)
  | with_reducible refine s_gSub ?_
  | ((with_reducible apply s_setL); (walk_at "hp"); (exact rfl); (intro _ _ _))
  | ((with_reducible refine s_alloc ?_ ?_); (walk_at "sz"); (intro _ _ _ _ _))
  | ((with_reducible refine s_divmod ?_ ?_); (exact ⟨by omega, PyProof.noPylong_small (by omega)⟩); (intro _ _ _ _ _))
  | ((with_reducible apply s_gTup); (walk_at "sqt"); (exact rfl))
  | ((with_reducible apply s_gLst); (walk_at "sq"); (exact rfl))
  | with_reducible refine s_gCons ?_
  | with_reducible refine s_gNil ?_
  | with_reducible refine s_lc ?_
  | ((with_reducible apply s_cat); (walk_at "hp"); (walk_at "hp"); (walk_at "sz"); (intro _ _ _ _ _))
  | ((with_reducible apply s_slL); (walk_at "sq"); (intro _ _ _ _ _))
  | with_reducible refine s_for ?_
  | with_reducible refine s_rng1 ?_
  | ((with_reducible refine s_rng1i ?_ ?_); (constructor <;> omega))
  | with_reducible refine s_rng2 ?_
  | ((with_reducible refine s_rng2i ?_ ?_); (refine ⟨?_, ?_, ?_, ?_⟩ <;> omega))
  | with_reducible refine s_iStr ?_
  | with_reducible refine s_iStrS ?_
  | with_reducible refine s_iList ?_
  | ((with_reducible apply s_iListA); (walk_at "sq"))
  | with_reducible refine s_iTup ?_
  | ((with_reducible apply s_iTupA); (walk_at "sqt"))
  | with_reducible refine s_sl ?_
  | with_reducible refine s_noPart ?_
  | with_reducible refine s_part ?_
  | with_reducible refine s_int1 ?_
  | ((with_reducible refine s_slS ?_ ?_); (walk_at "sz"))
  | with_reducible refine s_tup ?_
  | with_reducible refine s_lst ?_
  | with_reducible refine s_par ?_
  | with_reducible refine s_pair ?_
  | with_reducible refine s_M1 ?_
  | with_reducible refine s_isStr ?_
  | with_reducible refine s_revS ?_
  | ((with_reducible refine s_revS1 ?_ ?_); (walk_at "sz"))
  | with_reducible refine s_fldE ?_
  | with_reducible refine s_propE ?_
  | ((with_reducible refine u_draw ?_ ?_ ?_ ?_); omega; omega; (walk_at "pool"); (intro _ _ _ _ _ _))
  | ((with_reducible refine u_pool ?_); (intro _ _ _ _ _))
  | with_reducible refine u_is_integer ?_
  | with_reducible refine s_isiII ?_
  | with_reducible refine s_isiIB ?_
  | with_reducible refine s_isiSS ?_
  | ((with_reducible apply u_fldRing); assumption; (walk_at "ring"))
  | ((with_reducible apply u_textP); (walk_at "ring"))
  | ((with_reducible apply u_strRing); (walk_at "ring"))
  | ((with_reducible apply u_eqRing); (walk_at "ring"); (walk_at "ring"))
  | ((with_reducible apply u_isiRing); assumption; (walk_at "ring"))
  | ((with_reducible refine u_is_word ?_ ?_); omega; (intro _ _))
  | ((with_reducible refine u_turnings ?_ ?_); omega; (intro _ _ _ _ _))
  | with_reducible refine s_makeE ?_
  | with_reducible refine s_methE ?_)
local macro_rules | `(tactic| walk_at "go") => `(tactic| repeat (walk_at "st"))
local macro_rules | `(tactic| walk_at "exs") => `(tactic| first | exact Ex.rfl | assumption | (apply Ex.snoc (by assumption); walk_at "exs") | (apply Ex.snocW (by assumption); walk_at "exs"))
local macro_rules | `(tactic| walk_at "kind") => `(tactic| first | assumption | (apply KindAt.ex0 (by assumption); (walk_at "kind")) | (apply KindAt.exP (by assumption) (by assumption); (walk_at "kind")))
local macro_rules | `(tactic| walk_at "st") => `(tactic| first
  | with_reducible refine s_lenSet ?_
  | with_reducible refine s_drop ?_
  | with_reducible refine s_bm ?_
  | with_reducible refine s_notN ?_
  | with_reducible refine s_isN ?_
  | ((with_reducible apply s_tyL); (walk_at "hp"))
  | with_reducible refine s_enumT ?_
  | ((with_reducible apply s_enumTA); (walk_at "sqt"))
  | with_reducible refine s_lc2 ?_)
local macro_rules | `(tactic| walk_at "lit") => `(tactic| exact lit_MRK)
local macro_rules | `(tactic| walk_at "st") => `(tactic| first
  | with_reducible refine s_dcT ?_
  | with_reducible refine s_dc ?_)
local macro_rules | `(tactic| walk_at "lit") => `(tactic| exact lit_z)
def t_law_is_step27 (K : PySem.W.Frag) : TS :=
  (tSeq (tIfS (tOr (tNot (tB (tCB (rIsi K) (tCons (tVar 0) (tCons (tC (.ty "tuple")) tNil))))) (tOr (tTest (tOp rNe (tCB (rLenV K) (tCons (tVar 0) tNil)) (tC (.int 4)))) (tOr (tNot (tB (tCB (rIsi K) (tCons (tOp (rIxT K) (tVar 0) (tC (.int 1))) (tCons (tC (.ty "str")) tNil))))) (tTest (tOp rNe (tCB (rLenV K) (tCons (tOp (rIxT K) (tVar 0) (tC (.int 1))) tNil)) (tC (.int 1))))))) (tRet (tC (.bl false))) tNext)
  (tRet (tAndV (tOp (rInK K) (tOp (rIxT K) (tVar 0) (tC (.int 0))) (tVar 2)) (tAndV (tOp rInSg (tOp (rIxT K) (tVar 0) (tC (.int 1))) (tVar 1)) (tAndV (tOp (rInK K) (tOp (rIxT K) (tVar 0) (tC (.int 2))) (tVar 2)) (tCall (sp_law_wholeK K) [] E0 (tCons (tOp (rIxT K) (tVar 0) (tC (.int 3))) tNil)))))))
def t_law_is_end27 (K : PySem.W.Frag) : TS :=
  (tSeq (tIfS (tOr (tNot (tB (tCB (rIsi K) (tCons (tVar 0) (tCons (tC (.ty "tuple")) tNil))))) (tTest (tOp rNe (tCB (rLenV K) (tCons (tVar 0) tNil)) (tC (.int 3))))) (tRet (tC (.bl false))) tNext)
  (tRet (tAndV (tOp (rInK K) (tOp (rIxT K) (tVar 0) (tC (.int 0))) (tVar 1)) (tAndV (tOp (rInK K) (tOp (rIxT K) (tVar 0) (tC (.int 1))) (tVar 1)) (tCall (sp_law_wholeK K) [] E0 (tCons (tOp (rIxT K) (tVar 0) (tC (.int 2))) tNil))))))
def t_law_wholeK (K : PySem.W.Frag) : TS :=
  (tRet (tAndV (tCB (rIsi K) (tCons (tVar 0) (tCons (tC (.ty "int")) tNil))) (tNotV (tCB (rIsi K) (tCons (tVar 0) (tCons (tC (.ty "bool")) tNil))))))
section
variable {K : PySem.W.Frag} {vs : List V} {H : Hp} {Q : VK} {E : XK}
theorem pure_law_wholeK (h : sp_law_wholeK K vs H Q E) : t_law_wholeK K (E1 Q) (start ["_law_thing"] vs) H := by
  obtain ⟨v, n, rfl, hk, k⟩ := h
  show t_law_wholeK K (E1 Q) [some v] H
  unfold t_law_wholeK
  walk_at "go"
  have hn := hk.2
  simp only [KD, List.mem_cons, List.not_mem_nil, or_false] at hn
  rcases hn with rfl | rfl | rfl | rfl | rfl | rfl | rfl
  · refine s_isiK hk (b := true) (by decide +kernel) ?_
    walk_at "go"
    refine s_isiK hk (b := false) (by decide +kernel) ?_
    walk_at "go"
    exact k
  · refine s_isiK hk (b := true) (by decide +kernel) ?_
    walk_at "go"
    refine s_isiK hk (b := true) (by decide +kernel) ?_
    walk_at "go"
    exact k
  all_goals
    refine s_isiK hk (b := false) (by decide +kernel) ?_
    walk_at "go"
    exact k
theorem fr_told {F : Addr → Prop} {H : Hp} {w : List Nat} {p r : Addr} {d : PyData} (hw : plain w) (f : F p) (h : H p = some (.lst [vS w, .ref r])) (hr : Fr F H 11 (.ref r) d) : Fr F H 12 (.ref p) (.list [dS w, d]) := by
  refine .inr ⟨p, _, _, rfl, rfl, f, h, rfl, fun i x e h1 h2 => ?_⟩
  match i, h1, h2 with
  | 0, h1, h2 => cases h1; cases h2; exact .inl (scS hw)
  | 1, h1, h2 => cases h1; cases h2; exact hr
structure At19 (K : PySem.W.Frag) (a x q : Addr) (M : LM) (G : Hp) : Prop where
  x : LoopAt K G x (srtM M)
  q : MAt K G q M
  p : PoolAt G a
  t : Tabs (tabs19 K) G
theorem At19.ex0 {a x q : Addr} {M : LM} {G G' : Hp} (e : Ex [] G G') (h : At19 K a x q M G) : At19 K a x q M G' := ⟨h.x.ex0 e, h.q.ex0 e, h.p.ex e (by simp), Tabs.ex0 e h.t⟩
theorem At19.exP {a x q : Addr} {M : LM} {G G' : Hp} (e : Ex [a] G G') (p : PoolAt G' a) (h : At19 K a x q M G) : At19 K a x q M G' := ⟨h.x.exP h.p e, h.q.exP h.p e, p, Tabs.exP h.p e h.t⟩
theorem At19.extN {a x q : Addr} {M : LM} {G G' : Hp} (e : ExtN G G') (t : Tabs (tabs19 K) G') (h : At19 K a x q M G) : At19 K a x q M G' := ⟨h.x.extN e, h.q.extN e, WB.ExtN.pool e h.p, t⟩
end
section
variable {K : PySem.W.Frag} {vs : List V} {H H' : Hp} {Q : VK} {E : XK}
theorem s_isiOth {x : V} (h : OthK K H x) (k : Q (.bl false) H) : rIsi K [x, .ty "str"] H Q := by
  cases h with
  | non => exact s_isiK .non (by decide +kernel) k
  | bl b => exact s_isiK .bl (by decide +kernel) k
  | int i => exact s_isiK .int (by decide +kernel) k
  | lst h => exact s_isiK (.lst h) (by decide +kernel) k
  | tup h => exact s_isiK (.tup h) (by decide +kernel) k
  | dict h => exact s_isiK (.dict h) (by decide +kernel) k
theorem sgV_one {s : List Nat} {c : Nat} : sgV s (vS [c]) = decide (c ∈ s) := by
  rw [sgV_S]
  by_cases h : c ∈ s
  · rw [isWord_mk (l := [c]) (by simp) (by simp) (fun d hd => by rw [List.mem_singleton.mp hd]; exact h), decide_eq_true h]
    rfl
  · rw [decide_eq_false h]
    cases hw : isWord [c] s with
    | false => rfl
    | true => exact absurd (isWord_in hw c (by simp)) h
theorem sgV_len {s l : List Nat} (h : l.length ≠ 1) : sgV s (vS l) = false := by rw [sgV_S, decide_eq_false h, Bool.and_false]
theorem s_isiTh {x : V} {d : Option (List V)} (h : ThK K H x d) (k : Q (.bl d.isSome) H) : rIsi K [x, .ty "tuple"] H Q := by
  cases h with
  | tup h hl he => exact s_isiK (b := true) (.tup h) (by decide +kernel) k
  | str l => exact s_isiK .str (by decide +kernel) k
  | non => exact s_isiK .non (by decide +kernel) k
  | bl b => exact s_isiK .bl (by decide +kernel) k
  | int i => exact s_isiK .int (by decide +kernel) k
  | lst h => exact s_isiK (.lst h) (by decide +kernel) k
  | dict h => exact s_isiK (.dict h) (by decide +kernel) k
theorem pure_law_is_step27 (h : sp_law_is_step27 K vs H Q E) : t_law_is_step27 K (E1 Q) (start ["_law_line_here", "_law_abc", "_law_posts"] vs) H := by
  obtain ⟨v, s, t, rfl, d, st, hv, ht, hs, k⟩ := h
  show t_law_is_step27 K (E1 Q) [some v, some (vS s), some (.ref t)] H
  unfold t_law_is_step27
  match d, hv, k with
  | none, hv, k =>
    exact s_seq (s_ifS (s_or (s_not (s_tB (s_cb (s_cons (s_var (v := v) rfl (s_cons (s_c (s_nil (s_isiTh hv (s_blQ (s_T rfl (s_T rfl (s_ret (s_c k))))))))))))))))
  | some xs, .tup (a := p) hp hln he, k =>
  have k : Q (.bl (stepV s st xs)) H := k
  refine s_seq (s_ifS (s_or (s_not (s_tB (s_cb (s_cons (s_var (v := .ref p) rfl (s_cons (s_c (s_nil (s_isiK (Kd.tup hp) (b := true) (by decide +kernel) (s_blQ (s_F rfl ?_)))))))))))))
  refine s_or (s_test (s_op (s_cb (s_cons (s_var (v := .ref p) rfl (s_nil (s_lenT hp (s_c (s_neI (s_blQ ?_))))))))))
  by_cases h4 : xs.length = 4
  rotate_left
  · refine s_T (by rw [decide_eq_false (by omega)]; rfl) (s_T rfl (s_ret (s_c ?_)))
    rw [stepV_len h4] at k
    exact k
  refine s_nFd (by omega) ?_
  obtain ⟨a, b, c, d, rfl⟩ : ∃ a b c d, xs = [a, b, c, d] := by
    match xs, h4 with
    | [a, b, c, d], _ => exact ⟨a, b, c, d, rfl⟩
  have kk : Q (.bl (sgV s b && (inSV st a && (inSV st c && intV d)))) H := k
  have ha := he a (by simp)
  have hb := he b (by simp)
  have hc := he c (by simp)
  have hd := he d (by simp)
  clear k
  refine s_or (s_not (s_tB (s_cb (s_cons (s_op (s_var (v := .ref p) rfl (s_c (s_ixT hp (atI_of (by decide) rfl) (s_cons (s_c (s_nil ?_)))))))))))
  cases hb with
  | oth ho =>
    refine s_isiOth ho (s_blQ (s_T rfl (s_T rfl (s_ret (s_c ?_)))))
    rw [ho.sg, Bool.false_and] at kk
    exact kk
  | str l hl' =>
    refine s_isiK Kd.str (b := true) (by decide +kernel) (s_blQ (s_F rfl (s_test (s_op (s_cb (s_cons (s_op (s_var (v := .ref p) rfl (s_c (s_ixT hp (atI_of (by decide) rfl) (s_nil (s_lenS (Nat.le_trans hl' (by decide)) (s_c (s_neI (s_blQ ?_)))))))))))))))
    by_cases h1 : l.length = 1
    rotate_left
    · refine s_T (by rw [decide_eq_false (by omega)]; rfl) (s_ret (s_c ?_))
      rw [sgV_len h1, Bool.false_and] at kk
      exact kk
    refine s_nFd (by omega) (s_next ?_)
    obtain ⟨c0, rfl⟩ : ∃ c0, l = [c0] := by
      match l, h1 with
      | [c0], _ => exact ⟨c0, rfl⟩
    rw [sgV_one] at kk
    refine s_ret (s_andV (s_op (s_op (s_var (v := .ref p) rfl (s_c (s_ixT hp rfl (s_var (v := .ref t) rfl (s_inK ha ht ⟨_, rfl, ?_⟩))))))))
    cases h2 : inSV st a with
    | false => rw [h2, Bool.false_and, Bool.and_false] at kk; exact s_F rfl kk
    | true =>
      rw [h2, Bool.true_and] at kk
      refine s_T rfl (s_andV (s_op (s_op (s_var (v := .ref p) rfl (s_c (s_ixT hp (atI_of (by decide) rfl) (s_var (v := vS s) rfl (s_inSg ⟨_, rfl, ?_⟩))))))))
      cases h3 : decide (c0 ∈ s) with
      | false => rw [h3, Bool.false_and] at kk; exact s_F rfl kk
      | true =>
        rw [h3, Bool.true_and] at kk
        refine s_T rfl (s_andV (s_op (s_op (s_var (v := .ref p) rfl (s_c (s_ixT hp (atI_of (by decide) rfl) (s_var (v := .ref t) rfl (s_inK hc ht ⟨_, rfl, ?_⟩))))))))
        cases h4 : inSV st c with
        | false => rw [h4, Bool.false_and] at kk; exact s_F rfl kk
        | true =>
          rw [h4, Bool.true_and] at kk
          exact s_T rfl (s_call (s_cons (s_op (s_var (v := .ref p) rfl (s_c (s_ixT hp (atI_of (by decide) rfl) (s_nil (u_wholeEl hd kk))))))))
theorem pure_law_is_end27 (h : sp_law_is_end27 K vs H Q E) : t_law_is_end27 K (E1 Q) (start ["_law_line_here", "_law_posts"] vs) H := by
  obtain ⟨v, t, rfl, d, st, hv, ht, k⟩ := h
  show t_law_is_end27 K (E1 Q) [some v, some (.ref t)] H
  unfold t_law_is_end27
  match d, hv, k with
  | none, hv, k =>
    exact s_seq (s_ifS (s_or (s_not (s_tB (s_cb (s_cons (s_var (v := v) rfl (s_cons (s_c (s_nil (s_isiTh hv (s_blQ (s_T rfl (s_T rfl (s_ret (s_c k))))))))))))))))
  | some xs, .tup (a := p) hp hln he, k =>
  have k : Q (.bl (endV st xs)) H := k
  refine s_seq (s_ifS (s_or (s_not (s_tB (s_cb (s_cons (s_var (v := .ref p) rfl (s_cons (s_c (s_nil (s_isiK (Kd.tup hp) (b := true) (by decide +kernel) (s_blQ (s_F rfl ?_)))))))))))))
  refine s_test (s_op (s_cb (s_cons (s_var (v := .ref p) rfl (s_nil (s_lenT hp (s_c (s_neI (s_blQ ?_)))))))))
  by_cases h4 : xs.length = 3
  rotate_left
  · refine s_T (by rw [decide_eq_false (by omega)]; rfl) (s_ret (s_c ?_))
    rw [endV_len h4] at k
    exact k
  refine s_nFd (by omega) (s_next ?_)
  obtain ⟨a, b, c, rfl⟩ : ∃ a b c, xs = [a, b, c] := by
    match xs, h4 with
    | [a, b, c], _ => exact ⟨a, b, c, rfl⟩
  have kk : Q (.bl (inSV st a && (inSV st b && intV c))) H := k
  clear k
  refine s_ret (s_andV (s_op (s_op (s_var (v := .ref p) rfl (s_c (s_ixT hp rfl (s_var (v := .ref t) rfl (s_inK (he a (by simp)) ht ⟨_, rfl, ?_⟩))))))))
  cases h2 : inSV st a with
  | false => rw [h2, Bool.false_and] at kk; exact s_F rfl kk
  | true =>
    rw [h2, Bool.true_and] at kk
    refine s_T rfl (s_andV (s_op (s_op (s_var (v := .ref p) rfl (s_c (s_ixT hp (atI_of (by decide) rfl) (s_var (v := .ref t) rfl (s_inK (he b (by simp)) ht ⟨_, rfl, ?_⟩))))))))
    cases h3 : inSV st b with
    | false => rw [h3, Bool.false_and] at kk; exact s_F rfl kk
    | true =>
      rw [h3, Bool.true_and] at kk
      exact s_T rfl (s_call (s_cons (s_op (s_var (v := .ref p) rfl (s_c (s_ixT hp (atI_of (by decide) rfl) (s_nil (u_wholeEl (he c (by simp)) kk))))))))
end
end WB
namespace WB
open PySem PySem.Spec PyProof.Rows L2 LamX
local macro_rules | `(tactic| walk_at "lit") => `(tactic| first | exact lit_abc | exact lit_empty)
local macro_rules | `(tactic| walk_at "nm") => `(tactic| focus first | exact List.not_mem_nil | (simp only [List.mem_singleton]; first | assumption | (exact Ne.symm (by assumption)) | (intro hz; subst hz; simp_all; done)))
local macro_rules | `(tactic| walk_at "hp") => `(tactic| first | assumption | (apply Ex.get0 (by assumption); walk_at "hp") | (apply Ex.get (by assumption); (walk_at "nm"); (walk_at "hp")))
local macro_rules | `(tactic| walk_at "sq") => `(tactic| first | assumption | (apply SqL.of; walk_at "hp") | (apply Ex.sqL (by assumption); (walk_at "nm"); (walk_at "sq")))
local macro_rules | `(tactic| walk_at "sqt") => `(tactic| first | assumption | (apply SqT.of; walk_at "hp") | (apply Ex.sqT (by assumption); (walk_at "nm"); (walk_at "sqt")))
local macro_rules | `(tactic| walk_at "sz") => `(tactic| focus ((with_reducible refine Nat.le_trans (m := 100000) ?_ (by decide)); first | omega | (simp; done) | (simp; omega)))
local macro_rules | `(tactic| walk_at "mul") => `(tactic| first | exact Or.inr ⟨by omega, by omega⟩ | exact Or.inl ⟨by omega, by omega⟩)
local macro_rules | `(tactic| walk_at "pool") => `(tactic| first | assumption | (apply PoolAt.ex (by assumption); (walk_at "nm"); (walk_at "pool")))
local macro_rules | `(tactic| walk_at "ring") => `(tactic| first | assumption | (apply RingAt.ex (by assumption); (walk_at "nm"); (walk_at "ring")))
local macro_rules | `(tactic| walk_at "st") => `(tactic| first
  | with_reducible refine s_seq ?_
  | with_reducible refine s_asg ?_
  | with_reducible refine s_gName ?_
  | with_reducible refine s_ret ?_
  | with_reducible refine s_ifS ?_
  | with_reducible refine s_next ?_
  | with_reducible refine s_op ?_
  | ((with_reducible apply s_var); exact rfl)
  | ((with_reducible apply s_cS); (walk_at "lit"))
  | with_reducible refine s_c ?_
  | with_reducible refine s_cb ?_
  | with_reducible refine s_cons ?_
  | with_reducible refine s_nil ?_
  | with_reducible refine s_un ?_
  | with_reducible refine s_call ?_
  | with_reducible refine s_test ?_
  | with_reducible refine s_tB ?_
  | with_reducible refine s_blQ ?_
  | with_reducible refine s_not ?_
  | with_reducible refine s_and ?_
  | with_reducible refine s_or ?_
  | with_reducible refine s_andV ?_
  | with_reducible refine s_orV ?_
  | with_reducible refine s_notV ?_
  | with_reducible refine s_ifE ?_
  | with_reducible refine s_chain ?_
  | ((with_reducible refine s_T ?_ ?_); (with_reducible exact rfl))
  | with_reducible refine s_nT ?_
  | with_reducible refine s_nF ?_
  | ((with_reducible refine s_F ?_ ?_); (with_reducible exact rfl))
  | ((with_reducible refine s_T ?_ ?_); assumption)
  | ((with_reducible refine s_F ?_ ?_); assumption)
  | ((with_reducible refine s_nB ?_ ?_); assumption)
  | ((with_reducible refine s_nA ?_ ?_); assumption)
  | ((with_reducible refine s_Td ?_ ?_); omega)
  | ((with_reducible refine s_Fd ?_ ?_); omega)
  | ((with_reducible refine s_nTd ?_ ?_); omega)
  | ((with_reducible refine s_nFd ?_ ?_); omega)
  | with_reducible refine s_sfld ?_
  | with_reducible refine s_addI ?_
  | with_reducible refine s_subI ?_
  | ((with_reducible refine s_mulI ?_ ?_); (walk_at "mul"))
  | ((with_reducible refine s_divI ?_ ?_); exact ⟨by omega, by omega⟩)
  | ((with_reducible refine s_modI ?_ ?_); omega)
  | ((with_reducible refine s_powI ?_ ?_); exact ⟨by decide, by decide, by decide⟩)
  | with_reducible refine s_ltI ?_
  | with_reducible refine s_leI ?_
  | with_reducible refine s_gtI ?_
  | with_reducible refine s_geI ?_
  | with_reducible refine s_negI ?_
  | with_reducible refine s_absI ?_
  | with_reducible refine s_intI ?_
  | with_reducible refine s_min2 ?_
  | with_reducible refine s_max2 ?_
  | with_reducible refine s_eqI ?_
  | with_reducible refine s_neI ?_
  | with_reducible refine s_eqS ?_
  | with_reducible refine s_neS ?_
  | with_reducible refine s_inSg ?_
  | with_reducible refine s_notInSg ?_
  | ((with_reducible refine s_addS ?_ ?_); (walk_at "sz"))
  | ((with_reducible refine s_lenS ?_ ?_); (walk_at "sz"))
  | ((with_reducible apply s_lenL); (walk_at "sq"))
  | ((with_reducible apply s_lenT); (walk_at "sqt"))
  | ((with_reducible apply s_ixL); (walk_at "sq"); exact rfl)
  | ((with_reducible apply s_ixT); (walk_at "sqt"); exact rfl)
  | with_reducible refine s_gSub ?_
  | ((with_reducible apply s_setL); (walk_at "hp"); (exact rfl); (intro _ _ _))
  | ((with_reducible refine s_alloc ?_ ?_); (walk_at "sz"); (intro _ _ _ _ _))
  | ((with_reducible refine s_divmod ?_ ?_); (exact ⟨by omega, PyProof.noPylong_small (by omega)⟩); (intro _ _ _ _ _))
  | ((with_reducible apply s_gTup); (walk_at "sqt"); (exact rfl))
  | ((with_reducible apply s_gLst); (walk_at "sq"); (exact rfl))
  | with_reducible refine s_gCons ?_
  | with_reducible refine s_gNil ?_
  | with_reducible refine s_lc ?_
  | ((with_reducible apply s_cat); (walk_at "hp"); (walk_at "hp"); (walk_at "sz"); (intro _ _ _ _ _))
  | ((with_reducible apply s_slL); (walk_at "sq"); (intro _ _ _ _ _))
  | with_reducible refine s_for ?_
  | with_reducible refine s_rng1 ?_
  | ((with_reducible refine s_rng1i ?_ ?_); (constructor <;> omega))
  | with_reducible refine s_rng2 ?_
  | ((with_reducible refine s_rng2i ?_ ?_); (refine ⟨?_, ?_, ?_, ?_⟩ <;> omega))
  | with_reducible refine s_iStr ?_
  | with_reducible refine s_iStrS ?_
  | with_reducible refine s_iList ?_
  | ((with_reducible apply s_iListA); (walk_at "sq"))
  | with_reducible refine s_iTup ?_
  | ((with_reducible apply s_iTupA); (walk_at "sqt"))
  | with_reducible refine s_sl ?_
  | with_reducible refine s_noPart ?_
  | with_reducible refine s_part ?_
  | with_reducible refine s_int1 ?_
  | ((with_reducible refine s_slS ?_ ?_); (walk_at "sz"))
  | with_reducible refine s_tup ?_
  | with_reducible refine s_lst ?_
  | with_reducible refine s_par ?_
  | with_reducible refine s_pair ?_
  | with_reducible refine s_M1 ?_
  | with_reducible refine s_isStr ?_
  | with_reducible refine s_revS ?_
  | ((with_reducible refine s_revS1 ?_ ?_); (walk_at "sz"))
  | with_reducible refine s_fldE ?_
  | with_reducible refine s_propE ?_
  | ((with_reducible refine u_draw ?_ ?_ ?_ ?_); omega; omega; (walk_at "pool"); (intro _ _ _ _ _ _))
  | ((with_reducible refine u_pool ?_); (intro _ _ _ _ _))
  | with_reducible refine u_is_integer ?_
  | with_reducible refine s_isiII ?_
  | with_reducible refine s_isiIB ?_
  | with_reducible refine s_isiSS ?_
  | ((with_reducible apply u_fldRing); assumption; (walk_at "ring"))
  | ((with_reducible apply u_textP); (walk_at "ring"))
  | ((with_reducible apply u_strRing); (walk_at "ring"))
  | ((with_reducible apply u_eqRing); (walk_at "ring"); (walk_at "ring"))
  | ((with_reducible apply u_isiRing); assumption; (walk_at "ring"))
  | ((with_reducible refine u_is_word ?_ ?_); omega; (intro _ _))
  | ((with_reducible refine u_turnings ?_ ?_); omega; (intro _ _ _ _ _))
  | with_reducible refine s_makeE ?_
  | with_reducible refine s_methE ?_)
local macro_rules | `(tactic| walk_at "go") => `(tactic| repeat (walk_at "st"))
local macro_rules | `(tactic| walk_at "exs") => `(tactic| first | exact Ex.rfl | assumption | (apply Ex.snoc (by assumption); walk_at "exs") | (apply Ex.snocW (by assumption); walk_at "exs"))
local macro_rules | `(tactic| walk_at "kind") => `(tactic| first | assumption | (apply KindAt.ex0 (by assumption); (walk_at "kind")) | (apply KindAt.exP (by assumption) (by assumption); (walk_at "kind")))
local macro_rules | `(tactic| walk_at "st") => `(tactic| first
  | with_reducible refine s_lenSet ?_
  | with_reducible refine s_drop ?_
  | with_reducible refine s_bm ?_
  | with_reducible refine s_notN ?_
  | with_reducible refine s_isN ?_
  | ((with_reducible apply s_tyL); (walk_at "hp"))
  | with_reducible refine s_enumT ?_
  | ((with_reducible apply s_enumTA); (walk_at "sqt"))
  | with_reducible refine s_lc2 ?_)
local macro_rules | `(tactic| walk_at "lit") => `(tactic| exact lit_MRK)
local macro_rules | `(tactic| walk_at "st") => `(tactic| first
  | with_reducible refine s_dcT ?_
  | with_reducible refine s_dc ?_)
local macro_rules | `(tactic| walk_at "lit") => `(tactic| exact lit_z)
def t_is_nameA (K : PySem.W.Frag) : TS :=
  (tSeq (tIfS (tOr (tNot (tB (tCB (rIsi K) (tCons (tVar 0) (tCons (tC (.ty "str")) tNil))))) (tNot (tTest (tChain rLeI rLeI (tC (.int 1)) (tCB (rLenV K) (tCons (tVar 0) tNil)) (tC (.int 8)))))) (tRet (tC (.bl false))) tNext)
  (tRet (tAndV (tOp rInSg (tOp rIxS (tVar 0) (tC (.int 0))) (tC (.str "abcdefghijklmnopqrstuvwxyz"))) (tCB (rAll K) (tCons (tLc (iStr (tVar 0)) (gName 1) tYes (tOp rInSg (tVar 1) (tC (.str "abcdefghijklmnopqrstuvwxyz0123456789"))) [1]) tNil)))))
def t_check_signs_x (K : PySem.W.Frag) (E : XK) : TS :=
  (tIfS (tOr (tNot (tB (tCall (sp_is_word K) [(vS LET)] E0 (tCons (tVar 0) tNil)))) (tOr (tTest (tOp rGtI (tCB (rLenV K) (tCons (tVar 0) tNil)) (tC (.int 4)))) (tTest (tOp rLtI (tLenSetS K (tVar 0)) (tCB (rLenV K) (tCons (tVar 0) tNil)))))) (tRs K (He.ga K "InvalidSigns") "given" E (tCons (tVar 0) tNil)) tNext)
def t_check_states_x (K : PySem.W.Frag) (E : XK) : TS :=
  (tSeq (tIfS (tOr (tNot (tB (tCB (rIsi K) (tCons (tVar 0) (tCons (tC (.ty "tuple")) tNil))))) (tTest (tOp rEq (tCB (rLenV K) (tCons (tVar 0) tNil)) (tC (.int 0))))) (tRs K (He.ga K "InvalidStates") "index" E (tCons (tC .non) tNil)) tNext)
  (tFor (iEnumT K (tCons (tVar 0) tNil)) (gTup K 2 (gCons (gName 1) (gCons (gName 2) gNil))) (tIfS (tOr (tTest (tOp rEq (tVar 1) (tC (.int 6)))) (tOr (tNot (tB (tCall (sp_is_nameA K) [] E0 (tCons (tVar 2) tNil)))) (tTest (tOp (rInK K) (tVar 2) (tSl (rSlA K) (tVar 0) tNoPart (tPart (tVar 1))))))) (tRs K (He.ga K "InvalidStates") "index" E (tCons (tVar 1) tNil)) tNext)))
def t_check_rows_x (K : PySem.W.Frag) (E : XK) : TS :=
  (tSeq (tIfS (tNot (tB (tCB (rIsi K) (tCons (tVar 2) (tCons (tC (.ty "tuple")) tNil))))) (tRs K (He.ga K "InvalidRows") "index" E (tCons (tC .non) tNil)) tNext)
  (tSeq (tAsg (tLst tNil) (gName 3))
  (tSeq (tFor (iEnumT K (tCons (tVar 2) tNil)) (gTup K 2 (gCons (gName 4) (gCons (gName 5) gNil))) (tSeq (tIfS (tOr (tNot (tB (tCall (sp_is_stepA K) [] E0 (tCons (tVar 5) (tCons (tVar 0) (tCons (tVar 1) tNil)))))) (tTest (tOp (rInD K) (tSl (rSlA K) (tVar 5) tNoPart (tPart (tC (.int 2)))) (tVar 3)))) (tRs K (He.ga K "InvalidRows") "index" E (tCons (tVar 4) tNil)) tNext)
  (tDrop (tBM K "list" rAppend (tVar 3) (tCons (tSl (rSlA K) (tVar 5) tNoPart (tPart (tC (.int 2)))) tNil)))))
  (tIfS (tTest (tOp rLtI (tCB (rLenV K) (tCons (tVar 2) tNil)) (tOp rMulI (tCB (rLenV K) (tCons (tVar 0) tNil)) (tCB (rLenV K) (tCons (tVar 1) tNil))))) (tRs K (He.ga K "InvalidRows") "index" E (tCons (tC .non) tNil)) tNext))))
def t_check_turns_x (K : PySem.W.Frag) (E : XK) : TS :=
  (tSeq (tIfS (tNot (tB (tCB (rIsi K) (tCons (tVar 1) (tCons (tC (.ty "tuple")) tNil))))) (tRs K (He.ga K "InvalidTurns") "index" E (tCons (tC .non) tNil)) tNext)
  (tSeq (tAsg (tLst tNil) (gName 2))
  (tFor (iEnumT K (tCons (tVar 1) tNil)) (gTup K 2 (gCons (gName 3) (gCons (gName 4) gNil))) (tSeq (tIfS (tOr (tNot (tB (tCall (sp_is_turnA K) [] E0 (tCons (tVar 4) (tCons (tVar 0) tNil))))) (tTest (tOp (rInK K) (tOp (rIxT K) (tVar 4) (tC (.int 0))) (tVar 2)))) (tRs K (He.ga K "InvalidTurns") "index" E (tCons (tVar 3) tNil)) tNext)
  (tDrop (tBM K "list" rAppend (tVar 2) (tCons (tOp (rIxT K) (tVar 4) (tC (.int 0))) tNil)))))))
def t_check_yes_x (K : PySem.W.Frag) (E : XK) : TS :=
  (tSeq (tIfS (tNot (tB (tCB (rIsi K) (tCons (tVar 1) (tCons (tC (.ty "tuple")) tNil))))) (tRs K (He.ga K "InvalidStates") "index" E (tCons (tC .non) tNil)) tNext)
  (tFor (iEnumT K (tCons (tVar 1) tNil)) (gTup K 2 (gCons (gName 2) (gCons (gName 3) gNil))) (tIfS (tOr (tTest (tOp (rNotInK K) (tVar 3) (tVar 0))) (tTest (tOp (rInK K) (tVar 3) (tSl (rSlA K) (tVar 1) tNoPart (tPart (tVar 2)))))) (tRs K (He.ga K "InvalidStates") "index" E (tCons (tVar 2) tNil)) tNext)))
section
variable {K : PySem.W.Frag} {vs : List V} {H : Hp} {Q : VK} {E : XK}
theorem pure_is_nameA (h : sp_is_nameA K vs H Q E) : t_is_nameA K (E1 Q) (start ["value", "mark"] vs) H := by
  obtain ⟨v, rfl, hv, k⟩ := h
  show t_is_nameA K (E1 Q) [some v, none] H
  unfold t_is_nameA
  refine s_seq (s_ifS (s_or (s_not (s_tB (s_cb (s_cons (s_var (v := v) rfl (s_cons (s_c (s_nil ?_))))))))))
  cases hv with
  | oth ho =>
    have e : nameV v = false := by cases ho <;> rfl
    have kk := k H Ex.rfl
    rw [e] at kk
    exact s_isiOth ho (s_blQ (s_T rfl (s_T rfl (s_ret (s_c kk)))))
  | str l hl =>
    refine s_isiK Kd.str (b := true) (by decide +kernel) (s_blQ (s_F rfl ?_))
    refine s_not (s_test (s_chain (s_c (s_cb (s_cons (s_var (v := vS l) rfl (s_nil (s_lenS (Nat.le_trans hl (by decide)) (s_leI ⟨_, rfl, ?_⟩)))))))))
    have kk := k H Ex.rfl
    by_cases c1 : (1 : Int) ≤ l.length
    rotate_left
    · have e : nameV (vS l) = false := by
        rw [nameV_S]
        exact Bool.eq_false_iff.mpr fun z => by have := (nameB_iff.mp z).1; omega
      rw [e] at kk
      exact s_Fd c1 (s_blQ (s_T rfl (s_ret (s_c kk))))
    refine s_Td c1 (s_c (s_leI (s_blQ ?_)))
    by_cases c2 : (l.length : Int) ≤ 8
    rotate_left
    · have e : nameV (vS l) = false := by
        rw [nameV_S]
        exact Bool.eq_false_iff.mpr fun z => by have := (nameB_iff.mp z).2.1; omega
      rw [e] at kk
      exact s_T (by rw [decide_eq_false c2]; rfl) (s_ret (s_c kk))
    refine s_nFd c2 (s_next ?_)
    obtain ⟨c, r, rfl⟩ : ∃ c r, l = c :: r := by
      match l, c1 with
      | c :: r, _ => exact ⟨c, r, rfl⟩
      | [], c1 => exact absurd c1 (by decide)
    have en : nameV (vS (c :: r)) = (decide (c ∈ LET) && (c :: r).all fun c => decide (c ∈ MRK)) := by
      rw [nameV_S]
      unfold nameB
      rw [decide_eq_true (show 1 ≤ (c :: r).length ∧ (c :: r).length ≤ 8 by omega)]
      rfl
    clear kk
    rw [en] at k
    refine s_ret (s_andV (s_op (s_op (s_var (v := vS (c :: r)) rfl (s_c (s_ixS (c := c) (Nat.le_trans hl (by decide)) (atI_of (by decide) rfl) (s_cS (l := LET) lit_abc (s_inSg ⟨_, rfl, ?_⟩))))))))
    cases hc : decide (c ∈ LET) with
    | false =>
      have kk := k H Ex.rfl
      rw [hc] at kk
      exact s_F rfl kk
    | true =>
      rw [hc] at k
      refine s_T rfl ?_
      walk_at "go"
      refine lc_mapS (by omega) (fun _ => true) (fun d => .bl (decide (d ∈ MRK))) (fun d H1 C1 C0 hd e1 k1 k0 => ?_) (fun D H1 hD e1 hd => ?_)
      · refine s_yes ?_
        walk_at "go"
        exact k1 _ Ex.rfl rfl
      walk_at "go"
      rw [show (c :: r).filter (fun _ => true) = c :: r from List.filter_eq_self.mpr fun _ _ => rfl] at hd
      refine s_all (bs := (c :: r).map fun d => decide (d ∈ MRK)) (SqL.of (by rw [hd, List.map_map]; rfl)) ?_
      rw [show ((c :: r).map fun d => decide (d ∈ MRK)).all id = (c :: r).all fun d => decide (d ∈ MRK) by rw [List.all_map]; rfl]
      exact k _ e1
theorem ndc_lt {l : List Nat} (h : ¬ l.Nodup) : ndc l.reverse < l.length := by
  have h1 : ndc l.reverse ≤ l.length := by rw [← List.length_reverse]; exact ndc_le _
  have h2 : ndc l.reverse ≠ l.length := fun e => h ((List.reverse_perm l).nodup_iff.mp ((ndc_full _).mp (by rw [e, List.length_reverse])))
  omega
theorem pure_check_signs_x (X : InX K) (h : spr_check_signs K vs H Q E) : t_check_signs_x K E (E1 Q) (start ["signs"] vs) H := by
  obtain ⟨v, rfl, hv, hb, k⟩ := h
  show t_check_signs_x K E (E1 Q) [some v] H
  unfold t_check_signs_x
  refine s_ifS (s_or (s_not (s_tB (s_call (s_cons (s_var (v := v) rfl (s_nil ?_)))))))
  have bad : ∀ {D : Ends} {H1 : Hp}, Ex [] H H1 → tRs K (He.ga K "InvalidSigns") "given" E (tCons (tVar 0) tNil) D [some v] H1 := fun e => s_rs (s_cons (s_var (v := v) rfl (s_nil (rsd_of X.sg e k))))
  cases hv with
  | oth ho =>
    obtain ⟨n, h1, h2, _⟩ := ho.kd
    exact u_not_word h2 h1 (s_blQ (s_T rfl (s_T rfl (bad Ex.rfl))))
  | str l hl hp =>
    refine u_is_word hl fun H1 e1 => ?_
    cases hw : isWord l LET with
    | false => exact s_blQ (s_T rfl (s_T rfl (bad e1)))
    | true =>
      refine s_blQ (s_F rfl (s_or (s_test (s_op (s_cb (s_cons (s_var (v := vS l) rfl (s_nil (s_lenS (Nat.le_trans hl (by decide)) (s_c (s_gtI (s_blQ ?_))))))))))))
      by_cases c4 : (4 : Int) < l.length
      · exact s_Td c4 (s_T rfl (bad e1))
      refine s_Fd c4 (s_test (s_op (s_lenSet (s_var (v := vS l) rfl (s_setNS (by omega) (s_cb (s_cons (s_var (v := vS l) rfl (s_nil (s_lenS (Nat.le_trans hl (by decide)) (s_ltI (s_blQ ?_))))))))))))
      refine s_Td ?_ (bad e1)
      have hn : ¬ l.Nodup := fun hn => by
        have : goodSB l = true := goodSB_iff.mpr ⟨hw, by omega, hn⟩
        rw [badSg_S, this] at hb
        cases hb
      have := ndc_lt hn
      omega
theorem pure_check_states_x (X : InX K) (h : spr_check_states K vs H Q E) : t_check_states_x K E (E1 Q) (start ["states", "index", "state"] vs) H := by
  obtain ⟨v, rfl, d, j, hv, hd, k⟩ := h
  show t_check_states_x K E (E1 Q) [some v, none, none] H
  unfold t_check_states_x
  refine s_seq (s_ifS (s_or (s_not (s_tB (s_cb (s_cons (s_var (v := v) rfl (s_cons (s_c (s_nil (s_isiTh hv (s_blQ ?_))))))))))))
  match d, hv, hd with
  | none, hv, hd =>
    cases hd
    exact s_T rfl (s_T rfl (s_rs (s_cons (s_c (s_nil (rsd_of X.st Ex.rfl k))))))
  | some xs, .tup (a := p) hp hl he, hd =>
    refine s_F rfl (s_test (s_op (s_cb (s_cons (s_var (v := .ref p) rfl (s_nil (s_lenT hp (s_c (s_eqI (s_blQ ?_))))))))))
    by_cases h0 : xs.length = 0
    · unfold stDue at hd
      simp only [h0, if_true] at hd
      cases hd
      exact s_Td (by omega) (s_rs (s_cons (s_c (s_nil (rsd_of X.st Ex.rfl k)))))
    have hd : (firstB (stBad xs) xs.length).map some = some j := by unfold stDue at hd; simpa only [if_neg h0] using hd
    have jat : ∀ {i : Nat}, i < xs.length → stBad xs i = true → (∀ k, k < i → stBad xs k = false) → j = some i := fun h1 h2 h3 => by
      rw [firstB_some h1 h2 h3] at hd
      cases hd
      rfl
    refine s_Fd (by omega) (s_next ?_)
    walk_at "go"
    refine for_run walk_enumT (fun i σ H1 => ∃ x1 x2, σ = [some (.ref p), x1, x2] ∧ Ex [] H H1 ∧ ∃ ls, StI xs i ls) ⟨_, _, rfl, Ex.rfl, [], .zero⟩ (fun i σ H1 _ ⟨_, _, _, e, _⟩ => e.sqT (by simp) hp) ?_ ?_
    · rintro i x σ H1 H2 hi ⟨x2, x3, rfl, e1, ls, I⟩ ⟨T, y, z, rfl, hT, rfl, hy, hz⟩
      have hz : xs[i]? = some z := hz
      have hez := he z (List.mem_of_getElem? hz)
      cases hy
      have e2 : Ex [] H1 (upd H1 T (.tup [.int (i : Nat), z])) := Ex.new hT
      have h2 : (upd H1 T (.tup [.int (i : Nat), z])) T = some (.tup [.int (i : Nat), z]) := upd_same
      revert e2 h2
      generalize upd H1 T (.tup [.int (i : Nat), z]) = H3
      intro e2 h2
      have e12 := e1.trans e2
      have bad : ∀ {D : Ends} {H4 : Hp}, stBad xs i = true → Ex [] H H4 → tRs K (He.ga K "InvalidStates") "index" E (tCons (tVar 1) tNil) D [some (.ref p), some (.int (i : Nat)), some z] H4 := fun hb e => by
        have := jat hi hb I.b
        subst this
        exact s_rs (s_cons (s_var (v := .int (i : Nat)) rfl (s_nil (rsd_of X.st e k))))
      refine s_gTup (SqT.of h2) rfl (s_gCons (s_gName (s_gCons (s_gName (s_gNil ?_)))))
      show tIfS _ _ _ _ [some (.ref p), some (.int (i : Nat)), some z] _
      refine s_ifS (s_or (s_test (s_op (s_var (v := .int (i : Nat)) rfl (s_c (s_eqI (s_blQ ?_)))))))
      by_cases c6 : (i : Int) = 6
      · have : i = 6 := by omega
        exact s_Td c6 (s_T rfl (bad (by subst this; exact st_bad6) e12))
      refine s_Fd c6 (s_or (s_not (s_tB (s_call (s_cons (s_var (v := z) rfl (s_nil ?_)))))))
      refine ⟨z, rfl, hez.ex0 e12, fun H4 e4 => ?_⟩
      cases hn : nameV z with
      | false => exact s_blQ (s_T rfl (s_T rfl (bad (st_badN hz hn) (e12.trans e4))))
      | true =>
        obtain ⟨l, rfl, hl'⟩ := nameV_iff hn
        refine s_blQ (s_F rfl (s_test (s_op (s_var (v := vS l) rfl (s_sl (s_var (v := .ref p) rfl (s_noPart (s_part (s_var (v := .int (i : Nat)) rfl (s_int1 (s_slA ((e12.trans e4).sqT (by simp) hp) fun q H5 e5 hs5 => ?_)))))))))))
        rw [show cutV xs none (some (i : Int)) = ls.map vS by rw [cutV_to (by omega)]; exact I.t] at hs5
        have e15 := (e12.trans e4).trans e5
        refine s_inK (.str l (Nat.le_trans hl'.2.1 (by decide))) (.inr hs5) (s_blQ ?_)
        rw [inSV_S]
        by_cases hm : l ∈ ls
        · exact s_Td hm (bad (I.badM hz hm) e15)
        · exact s_Fd hm (s_next ⟨_, _, rfl, e15, _, I.next hz (by omega) hl' hm⟩)
    · rintro σ H1 ⟨x2, x3, rfl, e1, ls, I⟩
      rw [firstB_none I.b] at hd
      cases hd
theorem pure_check_rows_x (X : InX K) (h : spr_check_rows K vs H Q E) : t_check_rows_x K E (E1 Q) (start ["signs", "states", "rows", "seen", "index", "row"] vs) H := by
  obtain ⟨s, t, v, rfl, st, dd, j, hs, hst, ht, hv, hd, k⟩ := h
  show t_check_rows_x K E (E1 Q) [some (vS s), some (.ref t), some v, none, none, none] H
  unfold t_check_rows_x
  refine s_seq (s_ifS (s_not (s_tB (s_cb (s_cons (s_var (v := v) rfl (s_cons (s_c (s_nil ?_)))))))))
  have h4 := hs.2.1
  have h6 := hst.2.1
  cases hv with
  | oth ho =>
    cases hd
    exact s_isiTh ho (s_blQ (s_T rfl (s_rs (s_cons (s_c (s_nil (rsd_of X.rw Ex.rfl k)))))))
  | @tup p xs ds hp hl hn he =>
    refine s_isiK (Kd.tup hp) (b := true) (by decide +kernel) (s_blQ (s_F rfl (s_next ?_)))
    walk_at "go"
    rename_i q H0 nq e0 h0
    have jat : ∀ {i : Nat}, i < ds.length → rowBad s st ds i = true → (∀ k, k < i → rowBad s st ds k = false) → j = some i := fun h1 h2 h3 => by
      unfold rowsDue at hd
      simp only [firstB_some h1 h2 h3] at hd
      cases hd
      rfl
    refine for_run walk_enumT (fun i σ H1 => ∃ x1 x2, σ = [some (vS s), some (.ref t), some (.ref p), some (.ref q), x1, x2] ∧ Ex [] H H1 ∧ ∃ rs, RwI s st ds i rs ∧ PrsAt K H1 q (rs.map fun r => (r.a, r.c))) ⟨_, _, rfl, e0, [], .zero, ⟨[], h0, rfl, by simp⟩⟩ (fun i σ H1 _ ⟨_, _, _, e, _⟩ => e.sqT (by simp) hp) ?_ ?_
    · rintro i x σ H1 H2 hi ⟨x2, x3, rfl, e1, rs, I, h1⟩ ⟨T, y, z, rfl, hT, rfl, hy, hz⟩
      have hz : xs[i]? = some z := hz
      have hdi : ds[i]? = some ds[i] := List.getElem?_eq_getElem (by omega)
      generalize ds[i] = di at hdi
      have hth := he i z di hz hdi
      cases hy
      have e2 : Ex [] H1 (upd H1 T (.tup [.int (i : Nat), z])) := Ex.new hT
      have h2 : (upd H1 T (.tup [.int (i : Nat), z])) T = some (.tup [.int (i : Nat), z]) := upd_same
      revert e2 h2
      generalize upd H1 T (.tup [.int (i : Nat), z]) = H3
      intro e2 h2
      have e12 := e1.trans e2
      have bad : ∀ {D : Ends} {H4 : Hp}, rowBad s st ds i = true → Ex [] H H4 → tRs K (He.ga K "InvalidRows") "index" E (tCons (tVar 4) tNil) D [some (vS s), some (.ref t), some (.ref p), some (.ref q), some (.int (i : Nat)), some z] H4 := fun hb e => by
        have := jat (by omega) hb I.b
        subst this
        exact s_rs (s_cons (s_var (v := .int (i : Nat)) rfl (s_nil (rsd_of X.rw e k))))
      refine s_gTup (SqT.of h2) rfl (s_gCons (s_gName (s_gCons (s_gName (s_gNil ?_)))))
      show tSeq _ _ _ [some (vS s), some (.ref t), some (.ref p), some (.ref q), some (.int (i : Nat)), some z] _
      refine s_seq (s_ifS (s_or (s_not (s_tB (s_call (s_cons (s_var (v := z) rfl (s_cons (s_var (v := vS s) rfl (s_cons (s_var (v := .ref t) rfl (s_nil ?_))))))))))))
      refine ⟨z, s, t, rfl, di, st, hth.ex0 e12, e12.sqT (by simp) ht, fun H4 e4 => ?_⟩
      have e14 := e12.trans e4
      cases hso : stepO s st di with
      | false => exact s_blQ (s_T rfl (s_T rfl (bad (rw_badS hdi hso) e14)))
      | true =>
        obtain ⟨r, rfl, hg⟩ := stepO_true hso
        obtain ⟨zp, rfl, hzp⟩ : ∃ zp, z = .ref zp ∧ SqT K H zp (rwV r) := by
          cases hth with
          | tup h _ _ => exact ⟨_, rfl, h⟩
        have hc2 : cutV (rwV r) none (some 2) = [vS r.a, vS [r.c]] := by rw [cutV_to (by omega)]; rfl
        refine s_blQ (s_F rfl (s_test (s_op (s_sl (s_var (v := .ref zp) rfl (s_noPart (s_part (s_c (s_int1 (s_slA (e14.sqT (by simp) hzp) fun q5 H5 e5 hs5 => ?_))))))))))
        rw [hc2] at hs5
        have hpl : ∀ r : Rw, (r.a ∈ st ∧ r.c ∈ s ∧ r.b ∈ st) → plain r.a ∧ r.c < 55296 := fun r hr => ⟨name_plain (hst.2.2.2 _ hr.1), let_plain (isWord_in hs.1 _ hr.2.1)⟩
        have h5 := ((h1.ex0 e2).ex0 e4).ex0 e5
        refine s_var (v := .ref q) rfl (s_inPr (w := (r.a, r.c)) h5 hs5 (fun z hz => ?_) (hpl r hg) (s_blQ ?_))
        · obtain ⟨r', hr, rfl⟩ := List.mem_map.mp hz
          exact hpl r' (I.g r' hr)
        have e15 := e14.trans e5
        by_cases hm : (r.a, r.c) ∈ rs.map fun r => (r.a, r.c)
        · exact s_Td hm (bad (I.badM hdi hm) e15)
        refine s_Fd hm (s_next ?_)
        obtain ⟨xq, hxq, _⟩ := id h5
        refine s_drop (s_bm (s_var (v := .ref q) rfl ?_))
        walk_at "go"
        refine s_slA (xs := rwV r) (e15.sqT (by simp) hzp) fun q6 H6 e6 hs6 => ?_
        rw [hc2] at hs6
        walk_at "go"
        have hrl : rs.length ≤ 100 := by
          have h7 : (ds.take i).length = rs.length := by rw [I.t, List.length_map]
          rw [List.length_take] at h7
          omega
        refine s_appPr (w := (r.a, r.c)) (h5.ex0 e6) hs6 (by rw [List.length_map]; omega) fun H7 e7 h7 => ?_
        refine ⟨_, _, rfl, Ex.drop nq (e15.trans e6) e7, _, I.next hdi hso hg hm, ?_⟩
        rw [List.map_append]
        exact h7
    · rintro σ H1 ⟨x2, x3, rfl, e1, rs, I, _⟩
      rw [← hl] at I
      unfold rowsDue at hd
      simp only [firstB_none I.b] at hd
      by_cases hlt : ds.length < s.length * st.length
      · rw [if_pos hlt] at hd
        cases hd
        have htt := e1.sqT (by simp) ht
        have hpp := e1.sqT (by simp) hp
        walk_at "go"
        refine s_Td (by rw [List.length_map, ← hl, ← Int.natCast_mul]; exact Int.ofNat_lt.mpr hlt) ?_
        exact s_rs (s_cons (s_c (s_nil (rsd_of X.rw e1 k))))
      · rw [if_neg hlt] at hd
        cases hd
theorem pure_check_turns_x (X : InX K) (h : spr_check_turns K vs H Q E) : t_check_turns_x K E (E1 Q) (start ["states", "turns", "seen", "index", "turn"] vs) H := by
  obtain ⟨t, v, rfl, st, dd, j, hst, ht, hv, hd, k⟩ := h
  show t_check_turns_x K E (E1 Q) [some (.ref t), some v, none, none, none] H
  unfold t_check_turns_x
  refine s_seq (s_ifS (s_not (s_tB (s_cb (s_cons (s_var (v := v) rfl (s_cons (s_c (s_nil ?_)))))))))
  have h6 := hst.2.1
  cases hv with
  | oth ho =>
    cases hd
    exact s_isiTh ho (s_blQ (s_T rfl (s_rs (s_cons (s_c (s_nil (rsd_of X.tn Ex.rfl k)))))))
  | @tup p xs ds hp hl hn he =>
    refine s_isiK (Kd.tup hp) (b := true) (by decide +kernel) (s_blQ (s_F rfl (s_next ?_)))
    walk_at "go"
    rename_i q H0 nq e0 h0
    have hd : (firstB (endBad st ds) ds.length).map some = some j := hd
    have jat : ∀ {i : Nat}, i < ds.length → endBad st ds i = true → (∀ k, k < i → endBad st ds k = false) → j = some i := fun h1 h2 h3 => by
      rw [firstB_some h1 h2 h3] at hd
      cases hd
      rfl
    refine for_run walk_enumT (fun i σ H1 => ∃ x1 x2, σ = [some (.ref t), some (.ref p), some (.ref q), x1, x2] ∧ Ex [] H H1 ∧ ∃ ts, EnI st ds i ts ∧ H1 q = some (.lst ((ts.map fun t => t.a).map vS))) ⟨_, _, rfl, e0, [], .zero, h0⟩ (fun i σ H1 _ ⟨_, _, _, e, _⟩ => e.sqT (by simp) hp) ?_ ?_
    · rintro i x σ H1 H2 hi ⟨x2, x3, rfl, e1, ts, I, h1⟩ ⟨T, y, z, rfl, hT, rfl, hy, hz⟩
      have hz : xs[i]? = some z := hz
      have hdi : ds[i]? = some ds[i] := List.getElem?_eq_getElem (by omega)
      generalize ds[i] = di at hdi
      have hth := he i z di hz hdi
      cases hy
      have e2 : Ex [] H1 (upd H1 T (.tup [.int (i : Nat), z])) := Ex.new hT
      have h2 : (upd H1 T (.tup [.int (i : Nat), z])) T = some (.tup [.int (i : Nat), z]) := upd_same
      revert e2 h2
      generalize upd H1 T (.tup [.int (i : Nat), z]) = H3
      intro e2 h2
      have e12 := e1.trans e2
      have bad : ∀ {D : Ends} {H4 : Hp}, endBad st ds i = true → Ex [] H H4 → tRs K (He.ga K "InvalidTurns") "index" E (tCons (tVar 3) tNil) D [some (.ref t), some (.ref p), some (.ref q), some (.int (i : Nat)), some z] H4 := fun hb e => by
        have := jat (by omega) hb I.b
        subst this
        exact s_rs (s_cons (s_var (v := .int (i : Nat)) rfl (s_nil (rsd_of X.tn e k))))
      refine s_gTup (SqT.of h2) rfl (s_gCons (s_gName (s_gCons (s_gName (s_gNil ?_)))))
      show tSeq _ _ _ [some (.ref t), some (.ref p), some (.ref q), some (.int (i : Nat)), some z] _
      refine s_seq (s_ifS (s_or (s_not (s_tB (s_call (s_cons (s_var (v := z) rfl (s_cons (s_var (v := .ref t) rfl (s_nil ?_))))))))))
      refine ⟨z, t, rfl, di, st, hth.ex0 e12, e12.sqT (by simp) ht, fun H4 e4 => ?_⟩
      have e14 := e12.trans e4
      cases hso : endO st di with
      | false => exact s_blQ (s_T rfl (s_T rfl (bad (en_badS hdi hso) e14)))
      | true =>
        obtain ⟨r, rfl, hg⟩ := endO_true hso
        obtain ⟨zp, rfl, hzp⟩ : ∃ zp, z = .ref zp ∧ SqT K H zp (tnV r) := by
          cases hth with
          | tup h _ _ => exact ⟨_, rfl, h⟩
        have hq4 := (e2.trans e4).get0 h1
        have hzp4 := e14.sqT (by simp) hzp
        refine s_blQ (s_F rfl (s_test (s_op (s_op (s_var (v := .ref zp) rfl (s_c (s_ixT (v := vS r.a) hzp4 (atI_of (by decide) rfl) (s_var (v := .ref q) rfl (s_inK (.str r.a (Nat.le_trans (hst.2.2.2 _ hg.1).2.1 (by decide))) (.inl (SqL.of hq4)) (s_blQ ?_))))))))))
        rw [inSV_S]
        by_cases hm : r.a ∈ ts.map fun t => t.a
        · exact s_Td hm (bad (I.badM hdi hm) e14)
        refine s_Fd hm (s_next ?_)
        have htl := I.le h6
        refine s_drop (s_bm (s_var (v := .ref q) rfl (s_tyL hq4 (s_cons (s_op (s_var (v := .ref zp) rfl (s_c (s_ixT (v := vS r.a) hzp4 (atI_of (by decide) rfl) (s_nil ?_)))))))))
        refine s_append (xs := (ts.map fun t => t.a).map vS) hq4 (by simp only [List.length_map]; exact Nat.lt_of_le_of_lt htl (by decide)) fun H5 e5 h5 => ?_
        refine ⟨_, _, rfl, Ex.drop nq e14 e5, _, I.next hdi hso hg hm, ?_⟩
        rw [h5, List.map_append, List.map_append]
        rfl
    · rintro σ H1 ⟨x2, x3, rfl, e1, ts, I, _⟩
      rw [← hl] at I
      rw [firstB_none I.b] at hd
      cases hd
theorem s_notInK {p : Addr} {st : List (List Nat)} {x : V} (h : ElK K H x) (hp : SqL K H p (st.map vS) ∨ SqT K H p (st.map vS)) (k : Q (.bl (!inSV st x)) H) : rNotInK K x (.ref p) H Q := by
  have e : st.map vS = (st.map S).map V.str := by rw [List.map_map]; rfl
  rw [e] at hp
  cases h with
  | str l h =>
    refine ⟨p, st.map S, rfl, hp, .inl ⟨_, rfl, ?_⟩⟩
    rw [decide_eq_decide.mpr S_mem]
    exact k
  | oth h =>
    rw [h.inS] at k
    exact ⟨p, st.map S, rfl, hp, .inr ⟨h, k⟩⟩
theorem pure_check_yes_x (X : InX K) (h : spr_check_yes K vs H Q E) : t_check_yes_x K E (E1 Q) (start ["states", "yes", "index", "state"] vs) H := by
  obtain ⟨t, v, rfl, st, d, j, hst, ht, hv, hd, k⟩ := h
  show t_check_yes_x K E (E1 Q) [some (.ref t), some v, none, none] H
  unfold t_check_yes_x
  refine s_seq (s_ifS (s_not (s_tB (s_cb (s_cons (s_var (v := v) rfl (s_cons (s_c (s_nil (s_isiTh hv (s_blQ ?_)))))))))))
  match d, hv, hd with
  | none, hv, hd =>
    cases hd
    exact s_T rfl (s_rs (s_cons (s_c (s_nil (rsd_of X.st Ex.rfl k)))))
  | some xs, .tup (a := p) hp hl he, hd =>
    have hd : (firstB (yesBad st xs) xs.length).map some = some j := hd
    have jat : ∀ {i : Nat}, i < xs.length → yesBad st xs i = true → (∀ k, k < i → yesBad st xs k = false) → j = some i := fun h1 h2 h3 => by
      rw [firstB_some h1 h2 h3] at hd
      cases hd
      rfl
    refine s_F rfl (s_next ?_)
    walk_at "go"
    refine for_run walk_enumT (fun i σ H1 => ∃ x1 x2, σ = [some (.ref t), some (.ref p), x1, x2] ∧ Ex [] H H1 ∧ ∃ ls, YeI st xs i ls) ⟨_, _, rfl, Ex.rfl, [], .zero⟩ (fun i σ H1 _ ⟨_, _, _, e, _⟩ => e.sqT (by simp) hp) ?_ ?_
    · rintro i x σ H1 H2 hi ⟨x2, x3, rfl, e1, ls, I⟩ ⟨T, y, z, rfl, hT, rfl, hy, hz⟩
      have hz : xs[i]? = some z := hz
      have hez := he z (List.mem_of_getElem? hz)
      cases hy
      have e2 : Ex [] H1 (upd H1 T (.tup [.int (i : Nat), z])) := Ex.new hT
      have h2 : (upd H1 T (.tup [.int (i : Nat), z])) T = some (.tup [.int (i : Nat), z]) := upd_same
      revert e2 h2
      generalize upd H1 T (.tup [.int (i : Nat), z]) = H3
      intro e2 h2
      have e12 := e1.trans e2
      have bad : ∀ {D : Ends} {H4 : Hp}, yesBad st xs i = true → Ex [] H H4 → tRs K (He.ga K "InvalidStates") "index" E (tCons (tVar 2) tNil) D [some (.ref t), some (.ref p), some (.int (i : Nat)), some z] H4 := fun hb e => by
        have := jat hi hb I.b
        subst this
        exact s_rs (s_cons (s_var (v := .int (i : Nat)) rfl (s_nil (rsd_of X.st e k))))
      refine s_gTup (SqT.of h2) rfl (s_gCons (s_gName (s_gCons (s_gName (s_gNil ?_)))))
      show tIfS _ _ _ _ [some (.ref t), some (.ref p), some (.int (i : Nat)), some z] _
      refine s_ifS (s_or (s_test (s_op (s_var (v := z) rfl (s_var (v := .ref t) rfl (s_notInK (hez.ex0 e12) (.inr (e12.sqT (by simp) ht)) (s_blQ ?_)))))))
      cases hn : inSV st z with
      | false => exact s_T rfl (s_T rfl (bad (ye_badN hz hn) e12))
      | true =>
        obtain ⟨l, hl', rfl⟩ := inSV_iff hn
        refine s_F rfl (s_test (s_op (s_var (v := vS l) rfl (s_sl (s_var (v := .ref p) rfl (s_noPart (s_part (s_var (v := .int (i : Nat)) rfl (s_int1 (s_slA (e12.sqT (by simp) hp) fun q H5 e5 hs5 => ?_))))))))))
        rw [show cutV xs none (some (i : Int)) = ls.map vS by rw [cutV_to (by omega)]; exact I.t] at hs5
        have e15 := e12.trans e5
        refine s_inK (.str l (Nat.le_trans (hst.2.2.2 _ hl').2.1 (by decide))) (.inr hs5) (s_blQ ?_)
        rw [inSV_S]
        by_cases hm : l ∈ ls
        · exact s_Td hm (bad (I.badM hz hm) e15)
        · exact s_Fd hm (s_next ⟨_, _, rfl, e15, _, I.next hz hl' hm⟩)
    · rintro σ H1 ⟨x2, x3, rfl, e1, ls, I⟩
      rw [firstB_none I.b] at hd
      cases hd
end
end WB
namespace WB
open PySem PySem.Spec PyProof.Rows L2 LamX
theorem l14b_48_49_50_51_52_53_54_55_56_57 : ("0123456789" : Str) = S [48, 49, 50, 51, 52, 53, 54, 55, 56, 57] := by decide +kernel
local macro_rules | `(tactic| walk_at "lit") => `(tactic| first | exact l14b_48_49_50_51_52_53_54_55_56_57)
local macro_rules | `(tactic| walk_at "lit") => `(tactic| first | exact lit_abc | exact lit_empty)
local macro_rules | `(tactic| walk_at "nm") => `(tactic| focus first | exact List.not_mem_nil | (simp only [List.mem_singleton]; first | assumption | (exact Ne.symm (by assumption)) | (intro hz; subst hz; simp_all; done)))
local macro_rules | `(tactic| walk_at "hp") => `(tactic| first | assumption | (apply Ex.get0 (by assumption); walk_at "hp") | (apply Ex.get (by assumption); (walk_at "nm"); (walk_at "hp")))
local macro_rules | `(tactic| walk_at "sq") => `(tactic| first | assumption | (apply SqL.of; walk_at "hp") | (apply Ex.sqL (by assumption); (walk_at "nm"); (walk_at "sq")))
local macro_rules | `(tactic| walk_at "sqt") => `(tactic| first | assumption | (apply SqT.of; walk_at "hp") | (apply Ex.sqT (by assumption); (walk_at "nm"); (walk_at "sqt")))
local macro_rules | `(tactic| walk_at "sz") => `(tactic| focus ((with_reducible refine Nat.le_trans (m := 100000) ?_ (by decide)); first | omega | (simp; done) | (simp; omega)))
local macro_rules | `(tactic| walk_at "mul") => `(tactic| first | exact Or.inr ⟨by omega, by omega⟩ | exact Or.inl ⟨by omega, by omega⟩)
local macro_rules | `(tactic| walk_at "pool") => `(tactic| first | assumption | (apply PoolAt.ex (by assumption); (walk_at "nm"); (walk_at "pool")))
local macro_rules | `(tactic| walk_at "ring") => `(tactic| first | assumption | (apply RingAt.ex (by assumption); (walk_at "nm"); (walk_at "ring")))
local macro_rules | `(tactic| walk_at "st") => `(tactic| first
  | with_reducible refine s_seq ?_
  | with_reducible refine s_asg ?_
  | with_reducible refine s_gName ?_
  | with_reducible refine s_ret ?_
  | with_reducible refine s_ifS ?_
  | with_reducible refine s_next ?_
  | with_reducible refine s_op ?_
  | ((with_reducible apply s_var); exact rfl)
  | ((with_reducible apply s_cS); (walk_at "lit"))
  | with_reducible refine s_c ?_
  | with_reducible refine s_cb ?_
  | with_reducible refine s_cons ?_
  | with_reducible refine s_nil ?_
  | with_reducible refine s_un ?_
  | with_reducible refine s_call ?_
  | with_reducible refine s_test ?_
  | with_reducible refine s_tB ?_
  | with_reducible refine s_blQ ?_
  | with_reducible refine s_not ?_
  | with_reducible refine s_and ?_
  | with_reducible refine s_or ?_
  | with_reducible refine s_andV ?_
  | with_reducible refine s_orV ?_
  | with_reducible refine s_notV ?_
  | with_reducible refine s_ifE ?_
  | with_reducible refine s_chain ?_
  | ((with_reducible refine s_T ?_ ?_); (with_reducible exact rfl))
  | with_reducible refine s_nT ?_
  | with_reducible refine s_nF ?_
  | ((with_reducible refine s_F ?_ ?_); (with_reducible exact rfl))
  | ((with_reducible refine s_T ?_ ?_); assumption)
  | ((with_reducible refine s_F ?_ ?_); assumption)
  | ((with_reducible refine s_nB ?_ ?_); assumption)
  | ((with_reducible refine s_nA ?_ ?_); assumption)
  | ((with_reducible refine s_Td ?_ ?_); omega)
  | ((with_reducible refine s_Fd ?_ ?_); omega)
  | ((with_reducible refine s_nTd ?_ ?_); omega)
  | ((with_reducible refine s_nFd ?_ ?_); omega)
  | with_reducible refine s_sfld ?_
  | with_reducible refine s_addI ?_
  | with_reducible refine s_subI ?_
  | ((with_reducible refine s_mulI ?_ ?_); (walk_at "mul"))
  | ((with_reducible refine s_divI ?_ ?_); exact ⟨by omega, by omega⟩)
  | ((with_reducible refine s_modI ?_ ?_); omega)
  | ((with_reducible refine s_powI ?_ ?_); exact ⟨by decide, by decide, by decide⟩)
  | with_reducible refine s_ltI ?_
  | with_reducible refine s_leI ?_
  | with_reducible refine s_gtI ?_
  | with_reducible refine s_geI ?_
  | with_reducible refine s_negI ?_
  | with_reducible refine s_absI ?_
  | with_reducible refine s_intI ?_
  | with_reducible refine s_min2 ?_
  | with_reducible refine s_max2 ?_
  | with_reducible refine s_eqI ?_
  | with_reducible refine s_neI ?_
  | with_reducible refine s_eqS ?_
  | with_reducible refine s_neS ?_
  | with_reducible refine s_inSg ?_
  | with_reducible refine s_notInSg ?_
  | ((with_reducible refine s_addS ?_ ?_); (walk_at "sz"))
  | ((with_reducible refine s_lenS ?_ ?_); (walk_at "sz"))
  | ((with_reducible apply s_lenL); (walk_at "sq"))
  | ((with_reducible apply s_lenT); (walk_at "sqt"))
  | ((with_reducible apply s_ixL); (walk_at "sq"); exact rfl)
  | ((with_reducible apply s_ixT); (walk_at "sqt"); exact rfl)
  | with_reducible refine s_gSub ?_
  | ((with_reducible apply s_setL); (walk_at "hp"); (exact rfl); (intro _ _ _))
  | ((with_reducible refine s_alloc ?_ ?_); (walk_at "sz"); (intro _ _ _ _ _))
  | ((with_reducible refine s_divmod ?_ ?_); (exact ⟨by omega, PyProof.noPylong_small (by omega)⟩); (intro _ _ _ _ _))
  | ((with_reducible apply s_gTup); (walk_at "sqt"); (exact rfl))
  | ((with_reducible apply s_gLst); (walk_at "sq"); (exact rfl))
  | with_reducible refine s_gCons ?_
  | with_reducible refine s_gNil ?_
  | with_reducible refine s_lc ?_
  | ((with_reducible apply s_cat); (walk_at "hp"); (walk_at "hp"); (walk_at "sz"); (intro _ _ _ _ _))
  | ((with_reducible apply s_slL); (walk_at "sq"); (intro _ _ _ _ _))
  | with_reducible refine s_for ?_
  | with_reducible refine s_rng1 ?_
  | ((with_reducible refine s_rng1i ?_ ?_); (constructor <;> omega))
  | with_reducible refine s_rng2 ?_
  | ((with_reducible refine s_rng2i ?_ ?_); (refine ⟨?_, ?_, ?_, ?_⟩ <;> omega))
  | with_reducible refine s_iStr ?_
  | with_reducible refine s_iStrS ?_
  | with_reducible refine s_iList ?_
  | ((with_reducible apply s_iListA); (walk_at "sq"))
  | with_reducible refine s_iTup ?_
  | ((with_reducible apply s_iTupA); (walk_at "sqt"))
  | with_reducible refine s_sl ?_
  | with_reducible refine s_noPart ?_
  | with_reducible refine s_part ?_
  | with_reducible refine s_int1 ?_
  | ((with_reducible refine s_slS ?_ ?_); (walk_at "sz"))
  | with_reducible refine s_tup ?_
  | with_reducible refine s_lst ?_
  | with_reducible refine s_par ?_
  | with_reducible refine s_pair ?_
  | with_reducible refine s_M1 ?_
  | with_reducible refine s_isStr ?_
  | with_reducible refine s_revS ?_
  | ((with_reducible refine s_revS1 ?_ ?_); (walk_at "sz"))
  | with_reducible refine s_fldE ?_
  | with_reducible refine s_propE ?_
  | ((with_reducible refine u_draw ?_ ?_ ?_ ?_); omega; omega; (walk_at "pool"); (intro _ _ _ _ _ _))
  | ((with_reducible refine u_pool ?_); (intro _ _ _ _ _))
  | with_reducible refine u_is_integer ?_
  | with_reducible refine s_isiII ?_
  | with_reducible refine s_isiIB ?_
  | with_reducible refine s_isiSS ?_
  | ((with_reducible apply u_fldRing); assumption; (walk_at "ring"))
  | ((with_reducible apply u_textP); (walk_at "ring"))
  | ((with_reducible apply u_strRing); (walk_at "ring"))
  | ((with_reducible apply u_eqRing); (walk_at "ring"); (walk_at "ring"))
  | ((with_reducible apply u_isiRing); assumption; (walk_at "ring"))
  | ((with_reducible refine u_is_word ?_ ?_); omega; (intro _ _))
  | ((with_reducible refine u_turnings ?_ ?_); omega; (intro _ _ _ _ _))
  | with_reducible refine s_makeE ?_
  | with_reducible refine s_methE ?_)
local macro_rules | `(tactic| walk_at "go") => `(tactic| repeat (walk_at "st"))
local macro_rules | `(tactic| walk_at "exs") => `(tactic| first | exact Ex.rfl | assumption | (apply Ex.snoc (by assumption); walk_at "exs") | (apply Ex.snocW (by assumption); walk_at "exs"))
local macro_rules | `(tactic| walk_at "kind") => `(tactic| first | assumption | (apply KindAt.ex0 (by assumption); (walk_at "kind")) | (apply KindAt.exP (by assumption) (by assumption); (walk_at "kind")))
local macro_rules | `(tactic| walk_at "st") => `(tactic| first
  | with_reducible refine s_lenSet ?_
  | with_reducible refine s_drop ?_
  | with_reducible refine s_bm ?_
  | with_reducible refine s_notN ?_
  | with_reducible refine s_isN ?_
  | ((with_reducible apply s_tyL); (walk_at "hp"))
  | with_reducible refine s_enumT ?_
  | ((with_reducible apply s_enumTA); (walk_at "sqt"))
  | with_reducible refine s_lc2 ?_)
local macro_rules | `(tactic| walk_at "lit") => `(tactic| exact lit_MRK)
local macro_rules | `(tactic| walk_at "st") => `(tactic| first
  | with_reducible refine s_dcT ?_
  | with_reducible refine s_dc ?_)
local macro_rules | `(tactic| walk_at "lit") => `(tactic| exact lit_z)
def t_Loop_init_x (K : PySem.W.Frag) (E : XK) : TS :=
  (tSeq (tDrop (tCall (spx_check_signs K) [] E (tCons (tVar 1) tNil)))
  (tSeq (tDrop (tCall (spx_check_states K) [] E (tCons (tVar 2) tNil)))
  (tSeq (tDrop (tCall (spx_check_rows K) [] E (tCons (tVar 1) (tCons (tVar 2) (tCons (tVar 3) tNil)))))
  (tSeq (tDrop (tCall (spx_check_turns K) [] E (tCons (tVar 2) (tCons (tVar 4) tNil))))
  (tSeq (tDrop (tCall (spx_check_yes K) [] E (tCons (tVar 2) (tCons (tVar 5) tNil))))
  tNever)))))
def t_law_is_name (K : PySem.W.Frag) : TS :=
  (tSeq (tIfS (tOr (tNot (tB (tCB (rIsi K) (tCons (tVar 0) (tCons (tC (.ty "str")) tNil))))) (tNot (tTest (tChain rLeI rLeI (tC (.int 1)) (tCB (rLenV K) (tCons (tVar 0) tNil)) (tC (.int 8)))))) (tRet (tC (.bl false))) tNext)
  (tSeq (tAsg (tC (.str "abcdefghijklmnopqrstuvwxyz")) (gName 1))
  (tRet (tAndV (tOp rInSg (tOp rIxS (tVar 0) (tC (.int 0))) (tVar 1)) (tOp (rEqD K) (tLc (iStr (tVar 0)) (gName 2) (tTest (tOp rNotInSg (tVar 2) (tOp rAddS (tVar 1) (tC (.str "0123456789"))))) (tVar 2) [2]) (tLst tNil))))))
def t_law_bad_signs (K : PySem.W.Frag) : TS :=
  (tSeq (tIfS (tOr (tNot (tB (tCall (sp_law_is_word K) [] E0 (tCons (tVar 0) (tCons (tC (.str "abcdefghijklmnopqrstuvwxyz")) tNil))))) (tTest (tOp rGtI (tCB (rLenV K) (tCons (tVar 0) tNil)) (tC (.int 4))))) (tRet (tC (.bl true))) tNext)
  (tRet (tOp rLtI (tLenSetS K (tVar 0)) (tCB (rLenV K) (tCons (tVar 0) tNil)))))
def t_law_states_due (K : PySem.W.Frag) : TS :=
  (tSeq (tIfS (tOr (tNot (tB (tCB (rIsi K) (tCons (tVar 0) (tCons (tC (.ty "tuple")) tNil))))) (tTest (tOp rEq (tCB (rLenV K) (tCons (tVar 0) tNil)) (tC (.int 0))))) (tRet (tLst (tCons (tC .non) tNil))) tNext)
  (tSeq (tFor (iRng1 (tCons (tCB (rLenV K) (tCons (tVar 0) tNil)) tNil)) (gName 1) (tIfS (tOr (tTest (tOp rEq (tVar 1) (tC (.int 6)))) (tOr (tNot (tB (tCall (sp_law_is_name K) [] E0 (tCons (tOp (rIxT K) (tVar 0) (tVar 1)) tNil)))) (tTest (tOp (rInK K) (tOp (rIxT K) (tVar 0) (tVar 1)) (tSl (rSlA K) (tVar 0) tNoPart (tPart (tVar 1))))))) (tRet (tLst (tCons (tVar 1) tNil))) tNext))
  (tRet (tLst tNil))))
def t_law_yes_due (K : PySem.W.Frag) : TS :=
  (tSeq (tIfS (tNot (tB (tCB (rIsi K) (tCons (tVar 1) (tCons (tC (.ty "tuple")) tNil))))) (tRet (tLst (tCons (tC .non) tNil))) tNext)
  (tSeq (tFor (iRng1 (tCons (tCB (rLenV K) (tCons (tVar 1) tNil)) tNil)) (gName 2) (tIfS (tOr (tTest (tOp (rNotInK K) (tOp (rIxT K) (tVar 1) (tVar 2)) (tVar 0))) (tTest (tOp (rInK K) (tOp (rIxT K) (tVar 1) (tVar 2)) (tSl (rSlA K) (tVar 1) tNoPart (tPart (tVar 2)))))) (tRet (tLst (tCons (tVar 2) tNil))) tNext))
  (tRet (tLst tNil))))
def t_law_rows_due (K : PySem.W.Frag) : TS :=
  (tSeq (tAsg (tLst tNil) (gName 3))
  (tSeq (tIfS (tNot (tB (tCB (rIsi K) (tCons (tVar 2) (tCons (tC (.ty "tuple")) tNil))))) (tRet (tLst (tCons (tC .non) tNil))) tNext)
  (tSeq (tFor (iRng1 (tCons (tCB (rLenV K) (tCons (tVar 2) tNil)) tNil)) (gName 4) (tSeq (tIfS (tOr (tNot (tB (tCall (sp_law_is_step27 K) [] E0 (tCons (tOp (rIxT K) (tVar 2) (tVar 4)) (tCons (tVar 0) (tCons (tVar 1) tNil)))))) (tTest (tOp (rInD K) (tSl (rSlA K) (tOp (rIxT K) (tVar 2) (tVar 4)) tNoPart (tPart (tC (.int 2)))) (tVar 3)))) (tRet (tLst (tCons (tVar 4) tNil))) tNext)
  (tDrop (tBM K "list" rAppend (tVar 3) (tCons (tSl (rSlA K) (tOp (rIxT K) (tVar 2) (tVar 4)) tNoPart (tPart (tC (.int 2)))) tNil)))))
  (tRet (tIf (tTest (tOp rLtI (tCB (rLenV K) (tCons (tVar 3) tNil)) (tOp rMulI (tCB (rLenV K) (tCons (tVar 0) tNil)) (tCB (rLenV K) (tCons (tVar 1) tNil))))) (tLst (tCons (tC .non) tNil)) (tLst tNil))))))
section
variable {K : PySem.W.Frag} {vs : List V} {H H' : Hp} {Q : VK} {E : XK}
theorem Rsd.ex0 {C f : Str} {v : V} (e : Ex [] H H') (h : Rsd K H E C f v) : Rsd K H' E C f v := fun d H2 hd e2 hx => h d H2 (e.free hd) (e.trans e2) hx
theorem RsdDue.ex0 {v : V} {u : Due} (e : Ex [] H H') (h : RsdDue K H E v u) : RsdDue K H' E v u := by
  cases u with
  | ok => exact h
  | signs => exact Rsd.ex0 e h
  | «at» C w j => exact Rsd.ex0 e h
theorem loopDue_bad {v : V} {d1 d4 : Option (List V)} {d2 d3 : Option (List (Option (List V)))} (h : badSg v = true) : loopDue v d1 d2 d3 d4 = .signs := if_pos h
theorem loopDue_st {v : V} {d1 d4 : Option (List V)} {d2 d3 : Option (List (Option (List V)))} {j : Option Nat} (h : badSg v = false) (h1 : stDue d1 = some j) : loopDue v d1 d2 d3 d4 = .at "InvalidStates" s14States j := by
  unfold loopDue
  rw [if_neg (by rw [h]; simp), h1]
theorem loopDue_rw {v : V} {d1 d4 : Option (List V)} {d2 d3 : Option (List (Option (List V)))} {j : Option Nat} (h : badSg v = false) (h1 : stDue d1 = none) (h2 : rowsDue (sOf v) (stOf d1) d2 = some j) : loopDue v d1 d2 d3 d4 = .at "InvalidRows" s14Rows j := by
  unfold loopDue
  rw [if_neg (by rw [h]; simp), h1]
  simp only [h2]
theorem loopDue_tn {v : V} {d1 d4 : Option (List V)} {d2 d3 : Option (List (Option (List V)))} {j : Option Nat} (h : badSg v = false) (h1 : stDue d1 = none) (h2 : rowsDue (sOf v) (stOf d1) d2 = none) (h3 : endsDue (stOf d1) d3 = some j) : loopDue v d1 d2 d3 d4 = .at "InvalidTurns" s14Turns j := by
  unfold loopDue
  rw [if_neg (by rw [h]; simp), h1]
  simp only [h2, h3]
theorem loopDue_ys {v : V} {d1 d4 : Option (List V)} {d2 d3 : Option (List (Option (List V)))} {j : Option Nat} (h : badSg v = false) (h1 : stDue d1 = none) (h2 : rowsDue (sOf v) (stOf d1) d2 = none) (h3 : endsDue (stOf d1) d3 = none) (h4 : yesDue (stOf d1) d4 = some j) : loopDue v d1 d2 d3 d4 = .at "InvalidStates" s14States j := by
  unfold loopDue
  rw [if_neg (by rw [h]; simp), h1]
  simp only [h2, h3, h4]
theorem loopDue_ok {v : V} {d1 d4 : Option (List V)} {d2 d3 : Option (List (Option (List V)))} (h : badSg v = false) (h1 : stDue d1 = none) (h2 : rowsDue (sOf v) (stOf d1) d2 = none) (h3 : endsDue (stOf d1) d3 = none) (h4 : yesDue (stOf d1) d4 = none) : loopDue v d1 d2 d3 d4 = .ok := by
  unfold loopDue
  rw [if_neg (by rw [h]; simp), h1]
  simp only [h2, h3, h4]
theorem sg_good {v : V} (h : badSg v = false) : ∃ s, v = vS s ∧ goodS s := by
  cases v with
  | str y => exact ⟨y.cps.toList, by show V.str y = V.str (S _); rw [S_toList], goodSB_iff.mp (by have : (!goodSB y.cps.toList) = false := h; simpa using this)⟩
  | _ => cases h
theorem ThK.at {v : V} {xs : List V} (h : ThK K H v (some xs)) : ∃ p, v = .ref p ∧ SqT K H p xs := by
  cases h with
  | tup h _ _ => exact ⟨_, rfl, h⟩
theorem RwK.tups {v : V} {α : Type} {rs : List α} {f : α → List V} (h : RwK K H v (some (rs.map fun r => some (f r)))) : ∃ p, v = .ref p ∧ TupsAt K H p (rs.map f) := by
  generalize hd : rs.map (fun r => some (f r)) = dd at h
  cases h with
  | @tup p xs ds h hl hn he =>
    subst hd
    rw [List.length_map] at hl
    refine ⟨p, rfl, xs, h, by rw [List.length_map]; omega, fun i x l h1 h2 => ?_⟩
    rw [List.getElem?_map] at h2
    obtain ⟨r, h3, rfl⟩ := Option.map_eq_some_iff.mp h2
    exact (he i x _ h1 (by rw [List.getElem?_map, h3]; rfl)).at
theorem pure_Loop_init_x (h : spr_Loop_init K vs H Q E) : t_Loop_init_x K E (E1 Q) (start ["self", "signs", "states", "rows", "turns", "yes", "state", "sign", "later", "amount", "given"] vs) H := by
  obtain ⟨x, v0, v1, v2, v3, v4, rfl, dv, d1, d2, d3, d4, P, k⟩ := h
  show t_Loop_init_x K E (E1 Q) [some x, some v0, some v1, some v2, some v3, some v4, none, none, none, none, none] H
  unfold t_Loop_init_x
  refine s_seq (s_drop (s_call (s_cons (s_var (v := v0) rfl (s_nil ?_)))))
  cases hb : badSg v0 with
  | true =>
    rw [loopDue_bad hb] at k
    exact .inr ⟨v0, rfl, P.s, hb, k⟩
  | false =>
  obtain ⟨s, rfl, hs⟩ := sg_good hb
  refine .inl ⟨s, rfl, hs, fun H1 e1 => ?_⟩
  refine s_seq (s_drop (s_call (s_cons (s_var (v := v1) rfl (s_nil ?_)))))
  cases h1 : stDue d1 with
  | some j =>
    rw [loopDue_st hb h1] at k
    exact .inr ⟨v1, rfl, d1, j, P.st.ex0 e1, h1, Rsd.ex0 e1 k⟩
  | none =>
  obtain ⟨st, rfl, hst⟩ := stDue_ok h1
  obtain ⟨t, rfl, ht⟩ := P.st.at
  refine .inl ⟨t, rfl, st, e1.sqT (by simp) ht, hst, fun H2 e2 => ?_⟩
  have e02 := e1.trans e2
  refine s_seq (s_drop (s_call (s_cons (s_var (v := vS s) rfl (s_cons (s_var (v := .ref t) rfl (s_cons (s_var (v := v2) rfl (s_nil ?_)))))))))
  cases h2 : rowsDue s st d2 with
  | some j =>
    rw [loopDue_rw hb h1 (by rw [sOf_S, stOf_S, h2])] at k
    exact .inr ⟨s, t, v2, rfl, st, d2, j, hs, hst, e02.sqT (by simp) ht, P.rw.ex0 e02, h2, Rsd.ex0 e02 k⟩
  | none =>
  obtain ⟨rs, rfl, hrs⟩ := rowsDue_ok h2 hs hst
  obtain ⟨u, rfl, hu⟩ := P.rw.tups
  refine .inl ⟨s, t, u, rfl, st, rs, hs, e02.sqT (by simp) ht, hst, hu.ex0 e02, hrs, fun H3 e3 => ?_⟩
  have e03 := e02.trans e3
  refine s_seq (s_drop (s_call (s_cons (s_var (v := .ref t) rfl (s_cons (s_var (v := v3) rfl (s_nil ?_)))))))
  cases h3 : endsDue st d3 with
  | some j =>
    rw [loopDue_tn hb h1 (by rw [sOf_S, stOf_S, h2]) (by rw [stOf_S, h3])] at k
    exact .inr ⟨t, v3, rfl, st, d3, j, hst, e03.sqT (by simp) ht, P.tn.ex0 e03, h3, Rsd.ex0 e03 k⟩
  | none =>
  obtain ⟨ts, rfl, hts⟩ := endsDue_ok h3
  obtain ⟨u', rfl, hu'⟩ := P.tn.tups
  refine .inl ⟨t, u', rfl, st, ts, e03.sqT (by simp) ht, hst, hu'.ex0 e03, hts, fun H4 e4 => ?_⟩
  have e04 := e03.trans e4
  refine s_seq (s_drop (s_call (s_cons (s_var (v := .ref t) rfl (s_cons (s_var (v := v4) rfl (s_nil ?_)))))))
  cases h4 : yesDue st d4 with
  | some j =>
    rw [loopDue_ys hb h1 (by rw [sOf_S, stOf_S, h2]) (by rw [stOf_S, h3]) (by rw [stOf_S, h4])] at k
    exact .inr ⟨t, v4, rfl, st, d4, j, hst, e04.sqT (by simp) ht, P.ys.ex0 e04, h4, Rsd.ex0 e04 k⟩
  | none =>
    rw [loopDue_ok hb h1 (by rw [sOf_S, stOf_S, h2]) (by rw [stOf_S, h3]) (by rw [stOf_S, h4])] at k
    exact k.elim
theorem pure_law_is_name (h : sp_law_is_name K vs H Q E) : t_law_is_name K (E1 Q) (start ["_law_thing", "_law_some", "_law_mark"] vs) H := by
  obtain ⟨v, rfl, hv, hpl, k⟩ := h
  show t_law_is_name K (E1 Q) [some v, none, none] H
  unfold t_law_is_name
  refine s_seq (s_ifS (s_or (s_not (s_tB (s_cb (s_cons (s_var (v := v) rfl (s_cons (s_c (s_nil ?_))))))))))
  cases hv with
  | oth ho =>
    have e : nameV v = false := by cases ho <;> rfl
    have kk := k H Ex.rfl
    rw [e] at kk
    exact s_isiOth ho (s_blQ (s_T rfl (s_T rfl (s_ret (s_c kk)))))
  | str l hl =>
    have hpl := hpl l rfl
    refine s_isiK Kd.str (b := true) (by decide +kernel) (s_blQ (s_F rfl ?_))
    refine s_not (s_test (s_chain (s_c (s_cb (s_cons (s_var (v := vS l) rfl (s_nil (s_lenS (Nat.le_trans hl (by decide)) (s_leI ⟨_, rfl, ?_⟩)))))))))
    have kk := k H Ex.rfl
    by_cases c1 : (1 : Int) ≤ l.length
    rotate_left
    · have e : nameV (vS l) = false := by
        rw [nameV_S]
        exact Bool.eq_false_iff.mpr fun z => by have := (nameB_iff.mp z).1; omega
      rw [e] at kk
      exact s_Fd c1 (s_blQ (s_T rfl (s_ret (s_c kk))))
    refine s_Td c1 (s_c (s_leI (s_blQ ?_)))
    by_cases c2 : (l.length : Int) ≤ 8
    rotate_left
    · have e : nameV (vS l) = false := by
        rw [nameV_S]
        exact Bool.eq_false_iff.mpr fun z => by have := (nameB_iff.mp z).2.1; omega
      rw [e] at kk
      exact s_T (by rw [decide_eq_false c2]; rfl) (s_ret (s_c kk))
    refine s_nFd c2 (s_next ?_)
    obtain ⟨c, r, rfl⟩ : ∃ c r, l = c :: r := by
      match l, c1 with
      | c :: r, _ => exact ⟨c, r, rfl⟩
      | [], c1 => exact absurd c1 (by decide)
    have en : nameV (vS (c :: r)) = (decide (c ∈ LET) && (c :: r).all fun c => decide (c ∈ MRK)) := by
      rw [nameV_S]
      unfold nameB
      rw [decide_eq_true (show 1 ≤ (c :: r).length ∧ (c :: r).length ≤ 8 by omega)]
      rfl
    clear kk
    rw [en] at k
    refine s_seq (s_asg (s_cS (l := LET) lit_abc (s_gName ?_)))
    refine s_ret (s_andV (s_op (s_op (s_var (v := vS (c :: r)) rfl (s_c (s_ixS (c := c) (Nat.le_trans hl (by decide)) (atI_of (by decide) rfl) (s_var (v := vS LET) rfl (s_inSg ⟨_, rfl, ?_⟩))))))))
    cases hc : decide (c ∈ LET) with
    | false =>
      have kk := k H Ex.rfl
      rw [hc] at kk
      exact s_F rfl kk
    | true =>
      rw [hc] at k
      refine s_T rfl ?_
      walk_at "go"
      refine lc_mapS (by omega) (fun c => !decide (c ∈ MRK)) (fun c => vS [c]) (fun c H1 C1 C0 hc e1 k1 k0 => ?_) (fun D H1 hD e1 hd => ?_)
      · refine s_test (s_op (s_var (v := vS [c]) rfl (s_op (s_var (v := vS LET) rfl (s_cS (l := [48, 49, 50, 51, 52, 53, 54, 55, 56, 57]) (by decide +kernel) (s_addS (by decide) (s_notInSg (s_blQ ?_))))))))
        have em : LET ++ [48, 49, 50, 51, 52, 53, 54, 55, 56, 57] = MRK := by decide +kernel
        rw [em]
        refine s_2 (fun hb => ?_) (fun hb => ?_)
        · exact s_var rfl (k1 _ Ex.rfl hb)
        · exact k0 _ Ex.rfl hb
      walk_at "go"
      rename_i p2 H2 n2 e2 h2
      refine s_eqLSnil (ls := ((c :: r).filter fun c => !decide (c ∈ MRK)).map fun c => [c]) (by rw [List.map_map]; exact SqL.of (e2.get0 hd)) (SqL.of h2) ?_ ?_
      · intro m hm
        obtain ⟨c, hc, rfl⟩ := List.mem_map.mp hm
        intro x hx
        rw [List.mem_singleton.mp hx]
        exact hpl c (List.mem_filter.mp hc).1
      · have e : (((c :: r).filter fun c => !decide (c ∈ MRK)).map fun c => [c]).isEmpty = (c :: r).all fun c => decide (c ∈ MRK) := by
          rw [List.isEmpty_map, Bool.eq_iff_iff, List.isEmpty_iff, List.filter_eq_nil_iff, List.all_eq_true]
          constructor
          · intro h c hc
            have := h c hc
            simpa using this
          · intro h c hc
            have := h c hc
            simpa using this
        rw [e]
        exact k _ (e1.trans e2)
theorem pure_law_bad_signs (h : sp_law_bad_signs K vs H Q E) : t_law_bad_signs K (E1 Q) (start ["_law_abc"] vs) H := by
  obtain ⟨v, rfl, hv, k⟩ := h
  show t_law_bad_signs K (E1 Q) [some v] H
  unfold t_law_bad_signs
  refine s_seq (s_ifS (s_or (s_not (s_tB (s_call (s_cons (s_var (v := v) rfl (s_cons (s_cS (l := LET) lit_abc (s_nil ?_))))))))))
  cases hv with
  | oth ho =>
    obtain ⟨n, h1, h2, _⟩ := ho.kd
    have e : badSg v = true := by cases ho <;> rfl
    have kk := k H Ex.rfl
    rw [e] at kk
    exact ⟨v, LET, rfl, .inr ⟨n, h2, h1, s_blQ (s_T rfl (s_T rfl (s_ret (s_c kk))))⟩⟩
  | str l hl hp =>
    refine ⟨vS l, LET, rfl, .inl ⟨l, rfl, hl, hp, fun H1 e1 => ?_⟩⟩
    have kk := k H1 e1
    rw [badSg_S] at kk
    unfold goodSB at kk
    cases hw : isWord l LET with
    | false => rw [hw] at kk; exact s_blQ (s_T rfl (s_T rfl (s_ret (s_c kk))))
    | true =>
      rw [hw, Bool.true_and] at kk
      refine s_blQ (s_F rfl (s_test (s_op (s_cb (s_cons (s_var (v := vS l) rfl (s_nil (s_lenS (Nat.le_trans hl (by decide)) (s_c (s_gtI (s_blQ ?_)))))))))))
      by_cases c4 : (4 : Int) < l.length
      · rw [decide_eq_false (by omega)] at kk
        exact s_Td c4 (s_ret (s_c kk))
      rw [decide_eq_true (by omega), Bool.true_and] at kk
      refine s_Fd c4 (s_next (s_ret (s_op (s_lenSet (s_var (v := vS l) rfl (s_setNS (by omega) (s_cb (s_cons (s_var (v := vS l) rfl (s_nil (s_lenS (Nat.le_trans hl (by decide)) (s_ltI ?_))))))))))))
      by_cases hn : l.Nodup
      · have en : ndc l.reverse = l.length := by rw [← List.length_reverse]; exact (ndc_full _).mpr ((List.reverse_perm l).nodup_iff.mpr hn)
        rw [en, decide_eq_false (Int.lt_irrefl _)]
        rw [decide_eq_true hn] at kk
        exact kk
      · have := ndc_lt hn
        rw [decide_eq_true (Int.ofNat_lt.mpr this)]
        rw [decide_eq_false hn] at kk
        exact kk
theorem pure_law_states_due (h : sp_law_states_due K vs H Q E) : t_law_states_due K (E1 Q) (start ["_law_posts", "_law_at"] vs) H := by
  obtain ⟨v, rfl, d, hv, pl, k⟩ := h
  show t_law_states_due K (E1 Q) [some v, none] H
  unfold t_law_states_due
  refine s_seq (s_ifS (s_or (s_not (s_tB (s_cb (s_cons (s_var (v := v) rfl (s_cons (s_c (s_nil (s_isiTh hv (s_blQ ?_))))))))))))
  match d, hv, pl, k with
  | none, hv, pl, k => exact s_T rfl (s_T rfl (s_ret (s_lst (s_cons (s_c (s_nil (s_alloc (by show 1 ≤ sizeLine; decide) fun r H1 n1 e1 h1 => k r H1 e1 h1)))))))
  | some xs, .tup (a := p) hp hl he, pl, k =>
    refine s_F rfl (s_test (s_op (s_cb (s_cons (s_var (v := .ref p) rfl (s_nil (s_lenT hp (s_c (s_eqI (s_blQ ?_))))))))))
    by_cases h0 : xs.length = 0
    · have e : stDue (some xs) = some none := by unfold stDue; simp only [h0, if_true]
      rw [e] at k
      exact s_Td (by omega) (s_ret (s_lst (s_cons (s_c (s_nil (s_alloc (by show 1 ≤ sizeLine; decide) fun r H1 n1 e1 h1 => k r H1 e1 h1))))))
    have e : stDue (some xs) = (firstB (stBad xs) xs.length).map some := by unfold stDue; simp only [if_neg h0]
    rw [e] at k
    refine s_Fd (by omega) (s_next ?_)
    walk_at "go"
    refine for_run walk_range (fun i σ G => ∃ x1, σ = [some (.ref p), x1] ∧ Ex [] H G ∧ ∃ ls, StI xs i ls) ⟨_, rfl, Ex.rfl, [], .zero⟩ (fun _ _ _ _ _ => trivial) ?_ ?_
    · rintro i y σ G G1 hi ⟨x1, rfl, e1, ls, I⟩ ⟨rfl, rfl⟩
      have hi : i < xs.length := by omega
      have hz : xs[i]? = some xs[i] := List.getElem?_eq_getElem hi
      generalize xs[i] = z at hz
      have hzm := List.mem_of_getElem? hz
      refine s_gName ?_
      show tIfS _ _ _ _ [some (.ref p), some (.int (0 + (i : Int)))] _
      rw [Int.zero_add]
      have ixp : ∀ {G : Hp} {R : VK}, Ex [] H G → R z G → tOp (rIxT K) (tVar 0) (tVar 1) [some (.ref p), some (.int (i : Int))] G R := fun e kk => s_op (s_var (v := .ref p) rfl (s_var (v := .int (i : Int)) rfl (s_ixT (e.sqT (by simp) hp) (atI_of (by omega) (by rw [Int.toNat_natCast]; exact hz)) kk)))
      have bad : ∀ {G : Hp} {D : Ends}, stBad xs i = true → Ex [] H G → D.rt = Q → tRet (tLst (tCons (tVar 1) tNil)) D [some (.ref p), some (.int (i : Int))] G := fun {G D} hb e hD => by
        obtain ⟨n, rt, b, c⟩ := D
        cases hD
        rw [firstB_some hi hb I.b] at k
        exact s_ret (s_lst (s_cons (s_var (v := .int (i : Int)) rfl (s_nil (s_alloc (by show 1 ≤ sizeLine; decide) fun r H1 n1 e1 h1 => k r H1 (e.trans e1) h1)))))
      refine s_ifS (s_or (s_test (s_op (s_var (v := .int (i : Int)) rfl (s_c (s_eqI (s_blQ ?_)))))))
      by_cases c6 : (i : Int) = 6
      · have : i = 6 := by omega
        exact s_Td c6 (s_T rfl (bad (by subst this; exact st_bad6) e1 rfl))
      refine s_Fd c6 (s_or (s_not (s_tB (s_call (s_cons (ixp e1 (s_nil ?_)))))))
      refine ⟨z, rfl, (he z hzm).ex0 e1, pl xs rfl z hzm, fun H4 e4 => ?_⟩
      cases hn : nameV z with
      | false => exact s_blQ (s_T rfl (s_T rfl (bad (st_badN hz hn) (e1.trans e4) rfl)))
      | true =>
        obtain ⟨l, rfl, hl'⟩ := nameV_iff hn
        refine s_blQ (s_F rfl (s_test (s_op (ixp (e1.trans e4) (s_sl (s_var (v := .ref p) rfl (s_noPart (s_part (s_var (v := .int (i : Int)) rfl (s_int1 (s_slA ((e1.trans e4).sqT (by simp) hp) fun q H5 e5 hs5 => ?_)))))))))))
        rw [show cutV xs none (some (i : Int)) = ls.map vS by rw [cutV_to (by omega)]; exact I.t] at hs5
        have e15 := (e1.trans e4).trans e5
        refine s_inK (.str l (Nat.le_trans hl'.2.1 (by decide))) (.inr hs5) (s_blQ ?_)
        rw [inSV_S]
        by_cases hm : l ∈ ls
        · exact s_Td hm (bad (I.badM hz hm) e15 rfl)
        · exact s_Fd hm (s_next ⟨_, rfl, e15, _, I.next hz (by omega) hl' hm⟩)
    · rintro σ H1 ⟨x1, rfl, e1, ls, I⟩
      rw [firstB_none fun k hk => I.b k (by omega)] at k
      exact s_ret (s_lst (s_nil (s_alloc (by show 0 ≤ sizeLine; decide) fun r H1 n1 e2 h1 => k r H1 (e1.trans e2) h1)))
theorem pure_law_yes_due (h : sp_law_yes_due K vs H Q E) : t_law_yes_due K (E1 Q) (start ["_law_posts", "_law_oks", "_law_at"] vs) H := by
  obtain ⟨t, v, rfl, st, d, hst, ht, hv, k⟩ := h
  show t_law_yes_due K (E1 Q) [some (.ref t), some v, none] H
  unfold t_law_yes_due
  refine s_seq (s_ifS (s_not (s_tB (s_cb (s_cons (s_var (v := v) rfl (s_cons (s_c (s_nil (s_isiTh hv (s_blQ ?_)))))))))))
  match d, hv, k with
  | none, hv, k => exact s_T rfl (s_ret (s_lst (s_cons (s_c (s_nil (s_alloc (by show 1 ≤ sizeLine; decide) fun r H1 n1 e1 h1 => k r H1 e1 h1))))))
  | some xs, .tup (a := p) hp hl he, k =>
    have e : yesDue st (some xs) = (firstB (yesBad st xs) xs.length).map some := rfl
    rw [e] at k
    refine s_F rfl (s_next ?_)
    walk_at "go"
    refine for_run walk_range (fun i σ G => ∃ x1, σ = [some (.ref t), some (.ref p), x1] ∧ Ex [] H G ∧ ∃ ls, YeI st xs i ls) ⟨_, rfl, Ex.rfl, [], .zero⟩ (fun _ _ _ _ _ => trivial) ?_ ?_
    · rintro i y σ G G1 hi ⟨x1, rfl, e1, ls, I⟩ ⟨rfl, rfl⟩
      have hi : i < xs.length := by omega
      have hz : xs[i]? = some xs[i] := List.getElem?_eq_getElem hi
      generalize xs[i] = z at hz
      have hzm := List.mem_of_getElem? hz
      refine s_gName ?_
      show tIfS _ _ _ _ [some (.ref t), some (.ref p), some (.int (0 + (i : Int)))] _
      rw [Int.zero_add]
      have ixp : ∀ {G : Hp} {R : VK}, Ex [] H G → R z G → tOp (rIxT K) (tVar 1) (tVar 2) [some (.ref t), some (.ref p), some (.int (i : Int))] G R := fun e kk => s_op (s_var (v := .ref p) rfl (s_var (v := .int (i : Int)) rfl (s_ixT (e.sqT (by simp) hp) (atI_of (by omega) (by rw [Int.toNat_natCast]; exact hz)) kk)))
      have bad : ∀ {G : Hp} {D : Ends}, yesBad st xs i = true → Ex [] H G → D.rt = Q → tRet (tLst (tCons (tVar 2) tNil)) D [some (.ref t), some (.ref p), some (.int (i : Int))] G := fun {G D} hb e hD => by
        obtain ⟨n, rt, b, c⟩ := D
        cases hD
        rw [firstB_some hi hb I.b] at k
        exact s_ret (s_lst (s_cons (s_var (v := .int (i : Int)) rfl (s_nil (s_alloc (by show 1 ≤ sizeLine; decide) fun r H1 n1 e1 h1 => k r H1 (e.trans e1) h1)))))
      refine s_ifS (s_or (s_test (s_op (ixp e1 (s_var (v := .ref t) rfl (s_notInK ((he z hzm).ex0 e1) (.inr (e1.sqT (by simp) ht)) (s_blQ ?_)))))))
      cases hn : inSV st z with
      | false => exact s_T rfl (s_T rfl (bad (ye_badN hz hn) e1 rfl))
      | true =>
        obtain ⟨l, hl', rfl⟩ := inSV_iff hn
        refine s_F rfl (s_test (s_op (ixp e1 (s_sl (s_var (v := .ref p) rfl (s_noPart (s_part (s_var (v := .int (i : Int)) rfl (s_int1 (s_slA (e1.sqT (by simp) hp) fun q H5 e5 hs5 => ?_))))))))))
        rw [show cutV xs none (some (i : Int)) = ls.map vS by rw [cutV_to (by omega)]; exact I.t] at hs5
        have e15 := e1.trans e5
        refine s_inK (.str l (Nat.le_trans (hst.2.2.2 _ hl').2.1 (by decide))) (.inr hs5) (s_blQ ?_)
        rw [inSV_S]
        by_cases hm : l ∈ ls
        · exact s_Td hm (bad (I.badM hz hm) e15 rfl)
        · exact s_Fd hm (s_next ⟨_, rfl, e15, _, I.next hz hl' hm⟩)
    · rintro σ H1 ⟨x1, rfl, e1, ls, I⟩
      rw [firstB_none fun k hk => I.b k (by omega)] at k
      exact s_ret (s_lst (s_nil (s_alloc (by show 0 ≤ sizeLine; decide) fun r H1 n1 e2 h1 => k r H1 (e1.trans e2) h1)))
theorem pure_law_rows_due (h : sp_law_rows_due K vs H Q E) : t_law_rows_due K (E1 Q) (start ["_law_abc", "_law_posts", "_law_lines", "_law_seen", "_law_at"] vs) H := by
  obtain ⟨s, t, v, rfl, st, dd, hs, hst, ht, hv, k⟩ := h
  show t_law_rows_due K (E1 Q) [some (vS s), some (.ref t), some v, none, none] H
  unfold t_law_rows_due
  have h4 := hs.2.1
  have h6 := hst.2.1
  refine s_seq (s_asg (s_lst (s_nil (s_alloc (by show 0 ≤ sizeLine; decide) fun q H0 nq e0 h0 => s_gName ?_))))
  refine s_seq (s_ifS (s_not (s_tB (s_cb (s_cons (s_var (v := v) rfl (s_cons (s_c (s_nil ?_)))))))))
  cases hv with
  | oth ho => exact s_isiTh (ho.ex0 e0) (s_blQ (s_T rfl (s_ret (s_lst (s_cons (s_c (s_nil (s_alloc (by show 1 ≤ sizeLine; decide) fun r H1 n1 e1 h1 => k r H1 (e0.trans e1) h1))))))))
  | @tup p xs ds hp hl hn he =>
    have hp0 := e0.sqT (by simp) hp
    refine s_isiK (Kd.tup hp0) (b := true) (by decide +kernel) (s_blQ (s_F rfl (s_next ?_)))
    walk_at "go"
    refine for_run walk_range (fun i σ G => ∃ x1, σ = [some (vS s), some (.ref t), some (.ref p), some (.ref q), x1] ∧ Ex [] H G ∧ ∃ rs, RwI s st ds i rs ∧ PrsAt K G q (rs.map fun r => (r.a, r.c))) ⟨_, rfl, e0, [], .zero, ⟨[], h0, rfl, by simp⟩⟩ (fun _ _ _ _ _ => trivial) ?_ ?_
    · rintro i y σ G G1 hi ⟨x1, rfl, e1, rs, I, h1⟩ ⟨rfl, rfl⟩
      have hi : i < xs.length := by omega
      have hz : xs[i]? = some xs[i] := List.getElem?_eq_getElem hi
      generalize xs[i] = z at hz
      have hdi : ds[i]? = some ds[i] := List.getElem?_eq_getElem (by omega)
      generalize ds[i] = di at hdi
      have hth := he i z di hz hdi
      refine s_gName ?_
      show tSeq _ _ _ [some (vS s), some (.ref t), some (.ref p), some (.ref q), some (.int (0 + (i : Int)))] _
      rw [Int.zero_add]
      have ixp : ∀ {G : Hp} {R : VK}, Ex [] H G → R z G → tOp (rIxT K) (tVar 2) (tVar 4) [some (vS s), some (.ref t), some (.ref p), some (.ref q), some (.int (i : Int))] G R := fun e kk => s_op (s_var (v := .ref p) rfl (s_var (v := .int (i : Int)) rfl (s_ixT (e.sqT (by simp) hp) (atI_of (by omega) (by rw [Int.toNat_natCast]; exact hz)) kk)))
      have bad : ∀ {G : Hp} {D : Ends}, rowBad s st ds i = true → Ex [] H G → D.rt = Q → tRet (tLst (tCons (tVar 4) tNil)) D [some (vS s), some (.ref t), some (.ref p), some (.ref q), some (.int (i : Int))] G := fun {G D} hb e hD => by
        obtain ⟨n, rt, b, c⟩ := D
        cases hD
        have ed : rowsDue s st (some ds) = some (some i) := by unfold rowsDue; simp only [firstB_some (show i < ds.length by omega) hb I.b]
        rw [ed] at k
        exact s_ret (s_lst (s_cons (s_var (v := .int (i : Int)) rfl (s_nil (s_alloc (by show 1 ≤ sizeLine; decide) fun r H1 n1 e1 h1 => k r H1 (e.trans e1) h1)))))
      refine s_seq (s_ifS (s_or (s_not (s_tB (s_call (s_cons (ixp e1 (s_cons (s_var (v := vS s) rfl (s_cons (s_var (v := .ref t) rfl (s_nil ?_))))))))))))
      refine ⟨z, s, t, rfl, di, st, hth.ex0 e1, .inr (e1.sqT (by simp) ht), h4, ?_⟩
      cases hso : stepO s st di with
      | false => exact s_blQ (s_T rfl (s_T rfl (bad (rw_badS hdi hso) e1 rfl)))
      | true =>
        obtain ⟨r, rfl, hg⟩ := stepO_true hso
        obtain ⟨zp, rfl, hzp⟩ := hth.at
        have hc2 : cutV (rwV r) none (some 2) = [vS r.a, vS [r.c]] := by rw [cutV_to (by omega)]; rfl
        refine s_blQ (s_F rfl (s_test (s_op (s_sl (ixp e1 (s_noPart (s_part (s_c (s_int1 (s_slA (e1.sqT (by simp) hzp) fun q5 H5 e5 hs5 => ?_))))))))))
        rw [hc2] at hs5
        have hpl : ∀ r : Rw, (r.a ∈ st ∧ r.c ∈ s ∧ r.b ∈ st) → plain r.a ∧ r.c < 55296 := fun r hr => ⟨name_plain (hst.2.2.2 _ hr.1), let_plain (isWord_in hs.1 _ hr.2.1)⟩
        have h5 := h1.ex0 e5
        refine s_var (v := .ref q) rfl (s_inPr (w := (r.a, r.c)) h5 hs5 (fun z hz => ?_) (hpl r hg) (s_blQ ?_))
        · obtain ⟨r', hr, rfl⟩ := List.mem_map.mp hz
          exact hpl r' (I.g r' hr)
        have e15 := e1.trans e5
        by_cases hm : (r.a, r.c) ∈ rs.map fun r => (r.a, r.c)
        · exact s_Td hm (bad (I.badM hdi hm) e15 rfl)
        refine s_Fd hm (s_next ?_)
        obtain ⟨xq, hxq, _⟩ := id h5
        refine s_drop (s_bm (s_var (v := .ref q) rfl (s_tyL hxq (s_cons (s_sl (ixp e15 (s_noPart (s_part (s_c (s_int1 (s_slA (e15.sqT (by simp) hzp) fun q6 H6 e6 hs6 => s_nil ?_)))))))))))
        rw [hc2] at hs6
        have hrl : rs.length ≤ 100 := by
          have h7 : (ds.take i).length = rs.length := by rw [I.t, List.length_map]
          rw [List.length_take] at h7
          omega
        refine s_appPr (w := (r.a, r.c)) (h5.ex0 e6) hs6 (by rw [List.length_map]; omega) fun H7 e7 h7 => ?_
        refine ⟨_, rfl, Ex.drop nq (e15.trans e6) e7, _, I.next hdi hso hg hm, ?_⟩
        rw [List.map_append]
        exact h7
    · rintro σ H1 ⟨x1, rfl, e1, rs, I, h1⟩
      have I : RwI s st ds ds.length rs := by rw [show ds.length = xs.length from hl]; simpa using I
      have hrl : ds.length = rs.length := by rw [I.done, List.length_map]
      obtain ⟨xq, hxq, hxl, _⟩ := id h1
      rw [List.length_map] at hxl
      have htt := e1.sqT (by simp) ht
      walk_at "go"
      rw [hxl]
      unfold rowsDue at k
      simp only [firstB_none I.b] at k
      by_cases hlt : ds.length < s.length * st.length
      · rw [if_pos hlt] at k
        refine s_Td (by rw [List.length_map, ← hrl, ← Int.natCast_mul]; exact Int.ofNat_lt.mpr hlt) ?_
        exact s_lst (s_cons (s_c (s_nil (s_alloc (by show 1 ≤ sizeLine; decide) fun r H2 n1 e2 h2 => k r H2 (e1.trans e2) h2))))
      · rw [if_neg hlt] at k
        refine s_Fd (by rw [List.length_map, ← hrl, ← Int.natCast_mul]; exact fun z => hlt (Int.ofNat_lt.mp z)) ?_
        exact s_lst (s_nil (s_alloc (by show 0 ≤ sizeLine; decide) fun r H2 n1 e2 h2 => k r H2 (e1.trans e2) h2))
end
end WB
namespace WB
open PySem PySem.Spec PyProof.Rows L2 LamX
theorem l14c_115_105_103_110_115 : ("signs" : Str) = S [115, 105, 103, 110, 115] := by decide +kernel
theorem l14c_115_116_97_116_101_115 : ("states" : Str) = S [115, 116, 97, 116, 101, 115] := by decide +kernel
theorem l14c_114_111_119_115 : ("rows" : Str) = S [114, 111, 119, 115] := by decide +kernel
theorem l14c_116_117_114_110_115 : ("turns" : Str) = S [116, 117, 114, 110, 115] := by decide +kernel
theorem l14c_110_111_116_104_105_110_103 : ("nothing" : Str) = S [110, 111, 116, 104, 105, 110, 103] := by decide +kernel
local macro_rules | `(tactic| walk_at "lit") => `(tactic| first | exact l14c_115_105_103_110_115 | exact l14c_115_116_97_116_101_115 | exact l14c_114_111_119_115 | exact l14c_116_117_114_110_115 | exact l14c_110_111_116_104_105_110_103)
local macro_rules | `(tactic| walk_at "lit") => `(tactic| first | exact lit_abc | exact lit_empty)
local macro_rules | `(tactic| walk_at "nm") => `(tactic| focus first | exact List.not_mem_nil | (simp only [List.mem_singleton]; first | assumption | (exact Ne.symm (by assumption)) | (intro hz; subst hz; simp_all; done)))
local macro_rules | `(tactic| walk_at "hp") => `(tactic| first | assumption | (apply Ex.get0 (by assumption); walk_at "hp") | (apply Ex.get (by assumption); (walk_at "nm"); (walk_at "hp")))
local macro_rules | `(tactic| walk_at "sq") => `(tactic| first | assumption | (apply SqL.of; walk_at "hp") | (apply Ex.sqL (by assumption); (walk_at "nm"); (walk_at "sq")))
local macro_rules | `(tactic| walk_at "sqt") => `(tactic| first | assumption | (apply SqT.of; walk_at "hp") | (apply Ex.sqT (by assumption); (walk_at "nm"); (walk_at "sqt")))
local macro_rules | `(tactic| walk_at "sz") => `(tactic| focus ((with_reducible refine Nat.le_trans (m := 100000) ?_ (by decide)); first | omega | (simp; done) | (simp; omega)))
local macro_rules | `(tactic| walk_at "mul") => `(tactic| first | exact Or.inr ⟨by omega, by omega⟩ | exact Or.inl ⟨by omega, by omega⟩)
local macro_rules | `(tactic| walk_at "pool") => `(tactic| first | assumption | (apply PoolAt.ex (by assumption); (walk_at "nm"); (walk_at "pool")))
local macro_rules | `(tactic| walk_at "ring") => `(tactic| first | assumption | (apply RingAt.ex (by assumption); (walk_at "nm"); (walk_at "ring")))
local macro_rules | `(tactic| walk_at "st") => `(tactic| first
  | with_reducible refine s_seq ?_
  | with_reducible refine s_asg ?_
  | with_reducible refine s_gName ?_
  | with_reducible refine s_ret ?_
  | with_reducible refine s_ifS ?_
  | with_reducible refine s_next ?_
  | with_reducible refine s_op ?_
  | ((with_reducible apply s_var); exact rfl)
  | ((with_reducible apply s_cS); (walk_at "lit"))
  | with_reducible refine s_c ?_
  | with_reducible refine s_cb ?_
  | with_reducible refine s_cons ?_
  | with_reducible refine s_nil ?_
  | with_reducible refine s_un ?_
  | with_reducible refine s_call ?_
  | with_reducible refine s_test ?_
  | with_reducible refine s_tB ?_
  | with_reducible refine s_blQ ?_
  | with_reducible refine s_not ?_
  | with_reducible refine s_and ?_
  | with_reducible refine s_or ?_
  | with_reducible refine s_andV ?_
  | with_reducible refine s_orV ?_
  | with_reducible refine s_notV ?_
  | with_reducible refine s_ifE ?_
  | with_reducible refine s_chain ?_
  | ((with_reducible refine s_T ?_ ?_); (with_reducible exact rfl))
  | with_reducible refine s_nT ?_
  | with_reducible refine s_nF ?_
  | ((with_reducible refine s_F ?_ ?_); (with_reducible exact rfl))
  | ((with_reducible refine s_T ?_ ?_); assumption)
  | ((with_reducible refine s_F ?_ ?_); assumption)
  | ((with_reducible refine s_nB ?_ ?_); assumption)
  | ((with_reducible refine s_nA ?_ ?_); assumption)
  | ((with_reducible refine s_Td ?_ ?_); omega)
  | ((with_reducible refine s_Fd ?_ ?_); omega)
  | ((with_reducible refine s_nTd ?_ ?_); omega)
  | ((with_reducible refine s_nFd ?_ ?_); omega)
  | with_reducible refine s_sfld ?_
  | with_reducible refine s_addI ?_
  | with_reducible refine s_subI ?_
  | ((with_reducible refine s_mulI ?_ ?_); (walk_at "mul"))
  | ((with_reducible refine s_divI ?_ ?_); exact ⟨by omega, by omega⟩)
  | ((with_reducible refine s_modI ?_ ?_); omega)
  | ((with_reducible refine s_powI ?_ ?_); exact ⟨by decide, by decide, by decide⟩)
  | with_reducible refine s_ltI ?_
  | with_reducible refine s_leI ?_
  | with_reducible refine s_gtI ?_
  | with_reducible refine s_geI ?_
  | with_reducible refine s_negI ?_
  | with_reducible refine s_absI ?_
  | with_reducible refine s_intI ?_
  | with_reducible refine s_min2 ?_
  | with_reducible refine s_max2 ?_
  | with_reducible refine s_eqI ?_
  | with_reducible refine s_neI ?_
  | with_reducible refine s_eqS ?_
  | with_reducible refine s_neS ?_
  | with_reducible refine s_inSg ?_
  | with_reducible refine s_notInSg ?_
  | ((with_reducible refine s_addS ?_ ?_); (walk_at "sz"))
  | ((with_reducible refine s_lenS ?_ ?_); (walk_at "sz"))
  | ((with_reducible apply s_lenL); (walk_at "sq"))
  | ((with_reducible apply s_lenT); (walk_at "sqt"))
  | ((with_reducible apply s_ixL); (walk_at "sq"); exact rfl)
  | ((with_reducible apply s_ixT); (walk_at "sqt"); exact rfl)
  | with_reducible refine s_gSub ?_
  | ((with_reducible apply s_setL); (walk_at "hp"); (exact rfl); (intro _ _ _))
  | ((with_reducible refine s_alloc ?_ ?_); (walk_at "sz"); (intro _ _ _ _ _))
  | ((with_reducible refine s_divmod ?_ ?_); (exact ⟨by omega, PyProof.noPylong_small (by omega)⟩); (intro _ _ _ _ _))
  | ((with_reducible apply s_gTup); (walk_at "sqt"); (exact rfl))
  | ((with_reducible apply s_gLst); (walk_at "sq"); (exact rfl))
  | with_reducible refine s_gCons ?_
  | with_reducible refine s_gNil ?_
  | with_reducible refine s_lc ?_
  | ((with_reducible apply s_cat); (walk_at "hp"); (walk_at "hp"); (walk_at "sz"); (intro _ _ _ _ _))
  | ((with_reducible apply s_slL); (walk_at "sq"); (intro _ _ _ _ _))
  | with_reducible refine s_for ?_
  | with_reducible refine s_rng1 ?_
  | ((with_reducible refine s_rng1i ?_ ?_); (constructor <;> omega))
  | with_reducible refine s_rng2 ?_
  | ((with_reducible refine s_rng2i ?_ ?_); (refine ⟨?_, ?_, ?_, ?_⟩ <;> omega))
  | with_reducible refine s_iStr ?_
  | with_reducible refine s_iStrS ?_
  | with_reducible refine s_iList ?_
  | ((with_reducible apply s_iListA); (walk_at "sq"))
  | with_reducible refine s_iTup ?_
  | ((with_reducible apply s_iTupA); (walk_at "sqt"))
  | with_reducible refine s_sl ?_
  | with_reducible refine s_noPart ?_
  | with_reducible refine s_part ?_
  | with_reducible refine s_int1 ?_
  | ((with_reducible refine s_slS ?_ ?_); (walk_at "sz"))
  | with_reducible refine s_tup ?_
  | with_reducible refine s_lst ?_
  | with_reducible refine s_par ?_
  | with_reducible refine s_pair ?_
  | with_reducible refine s_M1 ?_
  | with_reducible refine s_isStr ?_
  | with_reducible refine s_revS ?_
  | ((with_reducible refine s_revS1 ?_ ?_); (walk_at "sz"))
  | with_reducible refine s_fldE ?_
  | with_reducible refine s_propE ?_
  | ((with_reducible refine u_draw ?_ ?_ ?_ ?_); omega; omega; (walk_at "pool"); (intro _ _ _ _ _ _))
  | ((with_reducible refine u_pool ?_); (intro _ _ _ _ _))
  | with_reducible refine u_is_integer ?_
  | with_reducible refine s_isiII ?_
  | with_reducible refine s_isiIB ?_
  | with_reducible refine s_isiSS ?_
  | ((with_reducible apply u_fldRing); assumption; (walk_at "ring"))
  | ((with_reducible apply u_textP); (walk_at "ring"))
  | ((with_reducible apply u_strRing); (walk_at "ring"))
  | ((with_reducible apply u_eqRing); (walk_at "ring"); (walk_at "ring"))
  | ((with_reducible apply u_isiRing); assumption; (walk_at "ring"))
  | ((with_reducible refine u_is_word ?_ ?_); omega; (intro _ _))
  | ((with_reducible refine u_turnings ?_ ?_); omega; (intro _ _ _ _ _))
  | with_reducible refine s_makeE ?_
  | with_reducible refine s_methE ?_)
local macro_rules | `(tactic| walk_at "go") => `(tactic| repeat (walk_at "st"))
local macro_rules | `(tactic| walk_at "exs") => `(tactic| first | exact Ex.rfl | assumption | (apply Ex.snoc (by assumption); walk_at "exs") | (apply Ex.snocW (by assumption); walk_at "exs"))
local macro_rules | `(tactic| walk_at "kind") => `(tactic| first | assumption | (apply KindAt.ex0 (by assumption); (walk_at "kind")) | (apply KindAt.exP (by assumption) (by assumption); (walk_at "kind")))
local macro_rules | `(tactic| walk_at "st") => `(tactic| first
  | with_reducible refine s_lenSet ?_
  | with_reducible refine s_drop ?_
  | with_reducible refine s_bm ?_
  | with_reducible refine s_notN ?_
  | with_reducible refine s_isN ?_
  | ((with_reducible apply s_tyL); (walk_at "hp"))
  | with_reducible refine s_enumT ?_
  | ((with_reducible apply s_enumTA); (walk_at "sqt"))
  | with_reducible refine s_lc2 ?_)
local macro_rules | `(tactic| walk_at "lit") => `(tactic| exact lit_MRK)
local macro_rules | `(tactic| walk_at "st") => `(tactic| first
  | with_reducible refine s_dcT ?_
  | with_reducible refine s_dc ?_)
local macro_rules | `(tactic| walk_at "lit") => `(tactic| exact lit_z)
def t_law_ends_due (K : PySem.W.Frag) : TS :=
  (tSeq (tIfS (tNot (tB (tCB (rIsi K) (tCons (tVar 1) (tCons (tC (.ty "tuple")) tNil))))) (tRet (tLst (tCons (tC .non) tNil))) tNext)
  (tSeq (tFor (iRng1 (tCons (tCB (rLenV K) (tCons (tVar 1) tNil)) tNil)) (gName 2) (tIfS (tOr (tNot (tB (tCall (sp_law_is_end27 K) [] E0 (tCons (tOp (rIxT K) (tVar 1) (tVar 2)) (tCons (tVar 0) tNil))))) (tTest (tOp (rInK K) (tOp (rIxT K) (tOp (rIxT K) (tVar 1) (tVar 2)) (tC (.int 0))) (tLc (iTup K (tSl (rSlA K) (tVar 1) tNoPart (tPart (tVar 2)))) (gName 3) tYes (tOp (rIxT K) (tVar 3) (tC (.int 0))) [3])))) (tRet (tLst (tCons (tVar 2) tNil))) tNext))
  (tRet (tLst tNil))))
def t_law_loop_due (K : PySem.W.Frag) : TS :=
  (tSeq (tAsg (tVar 0) (gLst K 5 (gCons (gName 1) (gCons (gName 2) (gCons (gName 3) (gCons (gName 4) (gCons (gName 5) gNil)))))))
  (tSeq (tIfS (tB (tCall (sp_law_bad_signs K) [] E0 (tCons (tVar 1) tNil))) (tRet (tLst (tCons (tC (.str "signs")) (tCons (tCall (sp_law_faceX K 6) [] E0 (tCons (tVar 1) tNil)) tNil)))) tNext)
  (tSeq (tIfS (tTest (tOp (rNeD K) (tCall (sp_law_states_due K) [] E0 (tCons (tVar 2) tNil)) (tLst tNil))) (tRet (tLst (tCons (tC (.str "states")) (tCons (tCall (sp_law_faceX K 6) [] E0 (tCons (tOp (rIxL K) (tCall (sp_law_states_due K) [] E0 (tCons (tVar 2) tNil)) (tC (.int 0))) tNil)) tNil)))) tNext)
  (tSeq (tIfS (tTest (tOp (rNeD K) (tCall (sp_law_rows_due K) [] E0 (tCons (tVar 1) (tCons (tVar 2) (tCons (tVar 3) tNil)))) (tLst tNil))) (tRet (tLst (tCons (tC (.str "rows")) (tCons (tCall (sp_law_faceX K 6) [] E0 (tCons (tOp (rIxL K) (tCall (sp_law_rows_due K) [] E0 (tCons (tVar 1) (tCons (tVar 2) (tCons (tVar 3) tNil)))) (tC (.int 0))) tNil)) tNil)))) tNext)
  (tSeq (tIfS (tTest (tOp (rNeD K) (tCall (sp_law_ends_due K) [] E0 (tCons (tVar 2) (tCons (tVar 4) tNil))) (tLst tNil))) (tRet (tLst (tCons (tC (.str "turns")) (tCons (tCall (sp_law_faceX K 6) [] E0 (tCons (tOp (rIxL K) (tCall (sp_law_ends_due K) [] E0 (tCons (tVar 2) (tCons (tVar 4) tNil))) (tC (.int 0))) tNil)) tNil)))) tNext)
  (tSeq (tIfS (tTest (tOp (rNeD K) (tCall (sp_law_yes_due K) [] E0 (tCons (tVar 2) (tCons (tVar 5) tNil))) (tLst tNil))) (tRet (tLst (tCons (tC (.str "states")) (tCons (tCall (sp_law_faceX K 6) [] E0 (tCons (tOp (rIxL K) (tCall (sp_law_yes_due K) [] E0 (tCons (tVar 2) (tCons (tVar 5) tNil))) (tC (.int 0))) tNil)) tNil)))) tNext)
  (tRet (tLst (tCons (tC (.str "nothing")) (tCons (tCall (sp_law_faceX K 6) [] E0 (tCons (tC .non) tNil)) tNil))))))))))
def t_law_heard14 (K : PySem.W.Frag) (f c' : Addr) (q : Str) (tl : XK → Hp → VK → Prop) : TS :=
  (tSeq (tAsg (tC .non) (gName 1))
  (tSeq (tTryL K [(.ref (He.ga K "InvalidSigns"), some 2, fun a cls d => (tPar 3 1 (tCons (tC (.str "signs")) (tCons (tXf a cls d (He.ga K "InvalidSigns") "given" (tVar 2)) tNil)))), (.ref (He.ga K "InvalidStates"), some 2, fun a cls d => (tPar 3 1 (tCons (tC (.str "states")) (tCons (tXf a cls d (He.ga K "InvalidStates") "index" (tVar 2)) tNil)))), (.ref (He.ga K "InvalidRows"), some 2, fun a cls d => (tPar 3 1 (tCons (tC (.str "rows")) (tCons (tXf a cls d (He.ga K "InvalidRows") "index" (tVar 2)) tNil)))), (.ref (He.ga K "InvalidTurns"), some 2, fun a cls d => (tPar 3 1 (tCons (tC (.str "turns")) (tCons (tXf a cls d (He.ga K "InvalidTurns") "index" (tVar 2)) tNil))))] (fun W => (tSeq (tDrop (tAct f c' q tl W))
  (tAsg (tC (.str "nothing")) (gName 3)))))
  (tRet (tLst (tCons (tVar 3) (tCons (tCall (sp_law_faceX K 6) [] E0 (tCons (tVar 1) tNil)) tNil))))))
section
variable {K : PySem.W.Frag} {vs : List V} {H H' : Hp} {Q : VK} {E : XK}
theorem lc_mapT14 {b : Addr} {xs : List V} {j : Nat} {te : TE} {σ : L2.St} (hq : SqT K H b xs) (hn : xs.length ≤ 100000) (val : Nat → V)
    (h : ∀ (i : Nat) (x : V) (H1 : Hp) (C : VK), xs[i]? = some x → Ex [] H H1 → (∀ H2, Ex [] H1 H2 → C (val i) H2) → te ((wipe σ [j]).set j (some x)) H1 C)
    (k : ∀ D H', H D = none → Ex [] H H' → H' D = some (.lst ((List.range xs.length).map val)) → Q (.ref D) H') : LcW (Itt K b) (gName j) tYes te [j] σ H Q := by
  refine lc_run walk_tup hn [] (fun _ => True) (fun i acc _ => acc = (List.range i).map val) (by simp) trivial rfl (fun _ _ _ _ _ => trivial) (fun _ _ _ _ _ _ h => h) (fun H1 e => e.sqT (by simp) hq) ?_ ?_
  · rintro i acc x H1 H2 C1 C0 hi e _ rfl ⟨rfl, hx⟩ k1 k0
    refine ⟨wipe1 _ _ _, ?_⟩
    refine s_yes ?_
    refine s_T rfl ?_
    refine (h i x H2 C1 hx e fun H5 e5 => k1 _ H5 e5 trivial ?_)
    rw [List.range_succ, List.map_append]
    rfl
  · rintro D H' ys hD e _ hd _ rfl
    exact k D H' hD e hd
theorem map_range_getD {ts : List Tn} : (List.range ts.length).map (fun k => vS (ts.getD k ⟨[], [], 0⟩).a) = (ts.map fun t => t.a).map vS := by
  apply List.ext_getElem
  · simp
  · intro i h1 h2
    simp at h1 h2 ⊢
    rw [List.getElem?_eq_getElem h1]
    rfl
theorem pure_law_ends_due (h : sp_law_ends_due K vs H Q E) : t_law_ends_due K (E1 Q) (start ["_law_posts", "_law_ends", "_law_at", "_law_line_here"] vs) H := by
  obtain ⟨t, v, rfl, st, dd, hst, ht, hv, k⟩ := h
  show t_law_ends_due K (E1 Q) [some (.ref t), some v, none, none] H
  unfold t_law_ends_due
  have h6 := hst.2.1
  refine s_seq (s_ifS (s_not (s_tB (s_cb (s_cons (s_var (v := v) rfl (s_cons (s_c (s_nil ?_)))))))))
  cases hv with
  | oth ho => exact s_isiTh ho (s_blQ (s_T rfl (s_ret (s_lst (s_cons (s_c (s_nil (s_alloc (by show 1 ≤ sizeLine; decide) fun r H1 n1 e1 h1 => k r H1 e1 h1))))))))
  | @tup p xs ds hp hl hn he =>
    have e : endsDue st (some ds) = (firstB (endBad st ds) ds.length).map some := rfl
    rw [e] at k
    refine s_isiK (Kd.tup hp) (b := true) (by decide +kernel) (s_blQ (s_F rfl (s_next ?_)))
    walk_at "go"
    refine for_run walk_range (fun i σ G => ∃ x1 x2, σ = [some (.ref t), some (.ref p), x1, x2] ∧ Ex [] H G ∧ ∃ ts, EnI st ds i ts) ⟨_, _, rfl, Ex.rfl, [], .zero⟩ (fun _ _ _ _ _ => trivial) ?_ ?_
    · rintro i y σ G G1 hi ⟨x1, x2, rfl, e1, ts, I⟩ ⟨rfl, rfl⟩
      have hi : i < xs.length := by omega
      have hz : xs[i]? = some xs[i] := List.getElem?_eq_getElem hi
      generalize xs[i] = z at hz
      have hdi : ds[i]? = some ds[i] := List.getElem?_eq_getElem (by omega)
      generalize ds[i] = di at hdi
      have hth := he i z di hz hdi
      refine s_gName ?_
      show tIfS _ _ _ _ [some (.ref t), some (.ref p), some (.int (0 + (i : Int))), x2] _
      rw [Int.zero_add]
      have ixp : ∀ {G : Hp} {R : VK}, Ex [] H G → R z G → tOp (rIxT K) (tVar 1) (tVar 2) [some (.ref t), some (.ref p), some (.int (i : Int)), x2] G R := fun e kk => s_op (s_var (v := .ref p) rfl (s_var (v := .int (i : Int)) rfl (s_ixT (e.sqT (by simp) hp) (atI_of (by omega) (by rw [Int.toNat_natCast]; exact hz)) kk)))
      have bad : ∀ {G : Hp} {D : Ends}, endBad st ds i = true → Ex [] H G → D.rt = Q → tRet (tLst (tCons (tVar 2) tNil)) D [some (.ref t), some (.ref p), some (.int (i : Int)), x2] G := fun {G D} hb e hD => by
        obtain ⟨n, rt, b, c⟩ := D
        cases hD
        rw [firstB_some (show i < ds.length by omega) hb I.b] at k
        exact s_ret (s_lst (s_cons (s_var (v := .int (i : Int)) rfl (s_nil (s_alloc (by show 1 ≤ sizeLine; decide) fun r H1 n1 e1 h1 => k r H1 (e.trans e1) h1)))))
      refine s_ifS (s_or (s_not (s_tB (s_call (s_cons (ixp e1 (s_cons (s_var (v := .ref t) rfl (s_nil ?_)))))))))
      refine ⟨z, t, rfl, di, st, hth.ex0 e1, .inr (e1.sqT (by simp) ht), ?_⟩
      cases hso : endO st di with
      | false => exact s_blQ (s_T rfl (s_T rfl (bad (en_badS hdi hso) e1 rfl)))
      | true =>
        obtain ⟨r, rfl, hg⟩ := endO_true hso
        obtain ⟨zp, rfl, hzp⟩ := hth.at
        have hll : ts.length = i := by
          have h7 : (ds.take i).length = ts.length := by rw [I.t, List.length_map]
          rw [List.length_take] at h7
          omega
        refine s_blQ (s_F rfl (s_test (s_op (s_op (ixp e1 (s_c (s_ixT (v := vS r.a) (e1.sqT (by simp) hzp) (atI_of (by decide) rfl) (s_lc (s_iTup (s_sl (s_var (v := .ref p) rfl (s_noPart (s_part (s_var (v := .int (i : Int)) rfl (s_int1 (s_slA (e1.sqT (by simp) hp) fun q H5 e5 hs5 => ?_))))))))))))))))
        rw [cutV_to (by omega), Int.toNat_natCast] at hs5
        have e15 := e1.trans e5
        refine s_iTupA hs5 ?_
        refine lc_mapT14 hs5 (by rw [List.length_take]; omega) (fun k => vS (ts.getD k ⟨[], [], 0⟩).a) (fun k x H6 C hx e6 kk => ?_) (fun D H6 nD e6 hD => ?_)
        · obtain ⟨hk1, hk2⟩ := List.getElem?_eq_some_iff.mp hx
          rw [List.length_take] at hk1
          rw [List.getElem_take] at hk2
          have hx' : xs[k]? = some x := by rw [List.getElem?_eq_getElem (by omega), hk2]
          have hkt : k < ts.length := by omega
          have hd' : ds[k]? = some (some (tnV ts[k])) := by
            have h8 : (ds.take i)[k]? = some (some (tnV ts[k])) := by rw [I.t, List.getElem?_map, List.getElem?_eq_getElem hkt]; rfl
            rw [List.getElem?_take] at h8
            split at h8
            · exact h8
            · cases h8
          obtain ⟨xp, rfl, hxp⟩ := (he k x _ hx' hd').at
          have eg : ts.getD k ⟨[], [], 0⟩ = ts[k] := getD_of (List.getElem?_eq_getElem hkt)
          have kk := kk H6 Ex.rfl
          rw [eg] at kk
          exact s_op (s_var (v := .ref xp) rfl (s_c (s_ixT (v := vS ts[k].a) ((e15.trans e6).sqT (by simp) hxp) (atI_of (by decide) rfl) kk)))
        · rw [List.length_take, show min i xs.length = ts.length by omega, map_range_getD] at hD
          refine s_inK (.str r.a (Nat.le_trans (hst.2.2.2 _ hg.1).2.1 (by decide))) (.inl (SqL.of hD)) (s_blQ ?_)
          rw [inSV_S]
          have e16 := e15.trans e6
          by_cases hm : r.a ∈ ts.map fun t => t.a
          · exact s_Td hm (bad (I.badM hdi hm) e16 rfl)
          · exact s_Fd hm (s_next ⟨_, _, rfl, e16, _, I.next hdi hso hg hm⟩)
    · rintro σ H1 ⟨x1, x2, rfl, e1, ts, I⟩
      have I : EnI st ds ds.length ts := by rw [hl]; simpa using I
      rw [firstB_none I.b] at k
      exact s_ret (s_lst (s_nil (s_alloc (by show 0 ≤ sizeLine; decide) fun r H1 n1 e2 h1 => k r H1 (e1.trans e2) h1)))
theorem scal_oN (j : Option Nat) : Scal (oN j) (oD j) := by
  cases j with
  | none => exact .inl ⟨rfl, rfl⟩
  | some i => exact scI
theorem eqv_due {o : Option (Option Nat)} : PyData.eqv (.list ((o.map oD).toList)) (.list []) = !o.isSome := by
  cases o with
  | none => rfl
  | some j => cases j <;> rfl
theorem s_neDue {p q : Addr} {o : Option (Option Nat)} (h1 : H p = some (.lst (dueL o))) (h2 : H q = some (.lst [])) (k : Q (.bl o.isSome) H) : rNeD K (.ref p) (.ref q) H Q := by
  have d1 : Dd K H 1 (.ref p) (.list ((o.map oD).toList)) := by
    refine .inr (.inr ⟨p, _, _, rfl, rfl, h1, by cases o <;> simp [dueL], by cases o <;> rfl, fun i x e hx he => ?_⟩)
    cases o with
    | none => cases hx
    | some j =>
      cases i with
      | zero => cases hx; cases he; exact scal_oN j
      | succ i => cases hx
  have d2 : Dd K H 1 (.ref q) (.list []) := .inr (.inr ⟨q, [], [], rfl, rfl, h2, by simp, rfl, fun i x e hx => by cases hx⟩)
  refine ⟨_, _, Dd.dp _ _ _ d1, Dd.dp _ _ _ d2, Dd.shaped (by decide) d1, Dd.shaped (by decide) d2, ?_⟩
  rw [eqv_due, Bool.not_not]
  exact k
theorem plain_14 : plain s14Signs ∧ plain s14States ∧ plain s14Rows ∧ plain s14Turns ∧ plain sNothing := by
  refine ⟨?_, ?_, ?_, ?_, ?_⟩ <;> (intro c hc; revert c; decide)
theorem pure_law_loop_due (h : sp_law_loop_due K vs H Q E) : t_law_loop_due K (E1 Q) (start ["_law_parts_here", "_law_abc", "_law_posts", "_law_lines", "_law_ends", "_law_oks"] vs) H := by
  obtain ⟨p, rfl, v0, v1, v2, v3, v4, dv, d1, d2, d3, d4, hp, P, k⟩ := h
  show t_law_loop_due K (E1 Q) [some (.ref p), none, none, none, none, none] H
  unfold t_law_loop_due
  refine s_seq (s_asg (s_var (v := .ref p) rfl (s_gLst hp rfl (s_gCons (s_gName (s_gCons (s_gName (s_gCons (s_gName (s_gCons (s_gName (s_gCons (s_gName (s_gNil ?_))))))))))))))
  show tSeq _ _ _ [some (.ref p), some v0, some v1, some v2, some v3, some v4] _
  have told : ∀ {σ : L2.St} {H1 : Hp} {w : List Nat} {u : V} {d' : PyData}, plain w → Ex [] H H1 → Dx K H1 5 u d' → (loopDue v0 d1 d2 d3 d4).w = w → (loopDue v0 d1 d2 d3 d4).d dv = d' →
      sp_law_faceX K 6 ([u] ++ []) H1 (fun x H1 => tNil σ H1 fun xs H2 => Al (HO.lst (vS w :: x :: xs)) (vS w :: x :: xs).length H2 Q) E0 := by
    intro σ H1 w u d' hw e1 hd hw2 hd2
    refine u_faceX hd fun r H2 hr e2 f2 => s_nil (s_alloc (by show 2 ≤ sizeLine; decide) fun p H3 np e3 hp => ?_)
    refine k p H3 ((e1.trans e2).trans e3) ?_
    rw [hw2, hd2]
    refine fr_told hw True.intro hp ?_
    exact Fr.mono (fun _ _ => True.intro) (fun a zs _ ha => e3.get0 ha) _ _ _ f2
  refine s_seq (s_ifS (s_tB (s_call (s_cons (s_var (v := v0) rfl (s_nil ?_))))))
  refine ⟨v0, rfl, P.s, fun H1 e1 => ?_⟩
  cases hb : badSg v0 with
  | true =>
    exact s_blQ (s_T rfl (s_ret (s_lst (s_cons (s_cS (l := s14Signs) (by decide +kernel) (s_cons (s_call (s_cons (s_var (v := v0) rfl (s_nil (told plain_14.1 e1 (Dx.ex e1 _ _ _ P.f) (by rw [loopDue_bad hb]; rfl) (by rw [loopDue_bad hb]; rfl))))))))))))
  | false =>
  refine s_blQ (s_F rfl (s_next ?_))
  have eqN : ∀ {o : Option (Option Nat)} {R : Bool → Hp → Prop} {G : Hp} {r : Addr}, Ex [] H G → G r = some (.lst (dueL o)) → (∀ G', Ex [] H G' → R o.isSome G') → tLst tNil [some (.ref p), some v0, some v1, some v2, some v3, some v4] G (fun w H2 => rNeD K (.ref r) w H2 fun v H3 => ∃ b, v = .bl b ∧ R b H3) := fun {o R G r} e hr kk => by
    refine s_lst (s_nil (s_alloc (by show 0 ≤ sizeLine; decide) fun q H2 nq e2 hq => ?_))
    exact s_neDue (e2.get0 hr) hq ⟨_, rfl, kk H2 (e.trans e2)⟩
  obtain ⟨s, rfl, hs⟩ := sg_good hb
  -- states
  have cs : ∀ {G : Hp} {R : VK}, Ex [] H G → (∀ r G', Ex [] H G' → G' r = some (.lst (dueL (stDue d1))) → R (.ref r) G') → tCall (sp_law_states_due K) [] E0 (tCons (tVar 2) tNil) [some (.ref p), some (vS s), some v1, some v2, some v3, some v4] G R := fun e kk => s_call (s_cons (s_var (v := v1) rfl (s_nil ⟨v1, rfl, d1, P.st.ex0 e, P.pl, fun r G' e' hr => kk r G' (e.trans e') hr⟩)))
  refine s_seq (s_ifS (s_test (s_op (cs e1 fun r G e hr => eqN e hr fun G2 e2 => ?_))))
  cases h1 : stDue d1 with
  | some j =>
    refine s_T rfl (s_ret (s_lst (s_cons (s_cS (l := s14States) (by decide +kernel) (s_cons (s_call (s_cons (s_op (cs e2 fun r3 G3 e3 hr3 => ?_)))))))))
    rw [h1] at hr3
    exact s_c (s_ixL (v := oN j) (SqL.of hr3) rfl (s_nil (told plain_14.2.1 e3 (dx_scal (scal_oN j)) (by rw [loopDue_st hb h1]; rfl) (by rw [loopDue_st hb h1]; rfl))))
  | none =>
  refine s_F rfl (s_next ?_)
  clear cs hr e
  obtain ⟨st, rfl, hst⟩ := stDue_ok h1
  obtain ⟨t, rfl, ht⟩ := P.st.at
  -- rows
  have cs : ∀ {G : Hp} {R : VK}, Ex [] H G → (∀ r G', Ex [] H G' → G' r = some (.lst (dueL (rowsDue s st d2))) → R (.ref r) G') → tCall (sp_law_rows_due K) [] E0 (tCons (tVar 1) (tCons (tVar 2) (tCons (tVar 3) tNil))) [some (.ref p), some (vS s), some (.ref t), some v2, some v3, some v4] G R := fun e kk => s_call (s_cons (s_var (v := vS s) rfl (s_cons (s_var (v := .ref t) rfl (s_cons (s_var (v := v2) rfl (s_nil ⟨s, t, v2, rfl, st, d2, hs, hst, e.sqT (by simp) ht, P.rw.ex0 e, fun r G' e' hr => kk r G' (e.trans e') hr⟩)))))))
  refine s_seq (s_ifS (s_test (s_op (cs e2 fun r G e hr => eqN e hr fun G2 e2 => ?_))))
  cases h2 : rowsDue s st d2 with
  | some j =>
    refine s_T rfl (s_ret (s_lst (s_cons (s_cS (l := s14Rows) (by decide +kernel) (s_cons (s_call (s_cons (s_op (cs e2 fun r3 G3 e3 hr3 => ?_)))))))))
    rw [h2] at hr3
    have hz := loopDue_rw (d3 := d3) (d4 := d4) hb h1 (by rw [sOf_S, stOf_S, h2])
    exact s_c (s_ixL (v := oN j) (SqL.of hr3) rfl (s_nil (told plain_14.2.2.1 e3 (dx_scal (scal_oN j)) (by rw [hz]; rfl) (by rw [hz]; rfl))))
  | none =>
  refine s_F rfl (s_next ?_)
  clear cs hr e
  -- turns
  have cs : ∀ {G : Hp} {R : VK}, Ex [] H G → (∀ r G', Ex [] H G' → G' r = some (.lst (dueL (endsDue st d3))) → R (.ref r) G') → tCall (sp_law_ends_due K) [] E0 (tCons (tVar 2) (tCons (tVar 4) tNil)) [some (.ref p), some (vS s), some (.ref t), some v2, some v3, some v4] G R := fun e kk => s_call (s_cons (s_var (v := .ref t) rfl (s_cons (s_var (v := v3) rfl (s_nil ⟨t, v3, rfl, st, d3, hst, e.sqT (by simp) ht, P.tn.ex0 e, fun r G' e' hr => kk r G' (e.trans e') hr⟩)))))
  refine s_seq (s_ifS (s_test (s_op (cs e2 fun r G e hr => eqN e hr fun G2 e2 => ?_))))
  cases h3 : endsDue st d3 with
  | some j =>
    refine s_T rfl (s_ret (s_lst (s_cons (s_cS (l := s14Turns) (by decide +kernel) (s_cons (s_call (s_cons (s_op (cs e2 fun r3 G3 e3 hr3 => ?_)))))))))
    rw [h3] at hr3
    have hz := loopDue_tn (d4 := d4) hb h1 (by rw [sOf_S, stOf_S, h2]) (by rw [stOf_S, h3])
    exact s_c (s_ixL (v := oN j) (SqL.of hr3) rfl (s_nil (told plain_14.2.2.2.1 e3 (dx_scal (scal_oN j)) (by rw [hz]; rfl) (by rw [hz]; rfl))))
  | none =>
  refine s_F rfl (s_next ?_)
  clear cs hr e
  -- yes states
  have cs : ∀ {G : Hp} {R : VK}, Ex [] H G → (∀ r G', Ex [] H G' → G' r = some (.lst (dueL (yesDue st d4))) → R (.ref r) G') → tCall (sp_law_yes_due K) [] E0 (tCons (tVar 2) (tCons (tVar 5) tNil)) [some (.ref p), some (vS s), some (.ref t), some v2, some v3, some v4] G R := fun e kk => s_call (s_cons (s_var (v := .ref t) rfl (s_cons (s_var (v := v4) rfl (s_nil ⟨t, v4, rfl, st, d4, hst, e.sqT (by simp) ht, P.ys.ex0 e, fun r G' e' hr => kk r G' (e.trans e') hr⟩)))))
  refine s_seq (s_ifS (s_test (s_op (cs e2 fun r G e hr => eqN e hr fun G2 e2 => ?_))))
  cases h4 : yesDue st d4 with
  | some j =>
    refine s_T rfl (s_ret (s_lst (s_cons (s_cS (l := s14States) (by decide +kernel) (s_cons (s_call (s_cons (s_op (cs e2 fun r3 G3 e3 hr3 => ?_)))))))))
    rw [h4] at hr3
    have hz := loopDue_ys hb h1 (by rw [sOf_S, stOf_S, h2]) (by rw [stOf_S, h3]) (by rw [stOf_S, h4])
    exact s_c (s_ixL (v := oN j) (SqL.of hr3) rfl (s_nil (told plain_14.2.1 e3 (dx_scal (scal_oN j)) (by rw [hz]; rfl) (by rw [hz]; rfl))))
  | none =>
  have hz := loopDue_ok hb h1 (by rw [sOf_S, stOf_S, h2]) (by rw [stOf_S, h3]) (by rw [stOf_S, h4])
  refine s_F rfl (s_next (s_ret (s_lst (s_cons (s_cS (l := sNothing) (by decide +kernel) (s_cons (s_call (s_cons (s_c (s_nil ?_))))))))))
  exact told plain_14.2.2.2.2 e2 (dx_scal (.inl ⟨rfl, rfl⟩)) (by rw [hz]; rfl) (by rw [hz]; rfl)
theorem pure_law_heard14 (X : InX K) (m : ExmAll K ["InvalidSigns", "InvalidStates", "InvalidRows", "InvalidTurns"]) {f c' : Addr} {q : Str} {tl : XK → Hp → VK → Prop} (hc : H c' = some (CodeO c' q)) (h : TT_law_heard14 K tl H Q) : t_law_heard14 K f c' q tl (E1 Q) (start ["_law_act", "_law_kept", "e", "_law_word"] [.ref f]) H := by
  show t_law_heard14 K f c' q tl (E1 Q) [some (.ref f), none, none, none] H
  unfold t_law_heard14
  have fin : ∀ {σ : L2.St} {w : List Nat} {v : V} {H' : Hp}, plain w → FinH K w v H' Q → sp_law_faceX K 6 ([v] ++ []) H' (fun x H1 => tNil σ H1 fun xs H2 => Al (HO.lst (vS w :: x :: xs)) (vS w :: x :: xs).length H2 Q) E0 := by
    intro σ w v H' hw ⟨d, hd, k⟩
    refine u_faceX hd fun r H1 hr e1 f1 => s_nil (s_alloc (by show 2 ≤ sizeLine; decide) fun p H2 np e2 hp => ?_)
    refine k p H2 (e1.free np) (e1.trans e2) (fr_told hw (e1.free np) hp ?_)
    exact Fr.mono (fun _ h => h) (fun a zs _ ha => e2.get0 ha) _ _ _ f1
  have ex : ∀ {x y : Str} {b : Bool}, x ∈ (["InvalidSigns", "InvalidStates", "InvalidRows", "InvalidTurns"] : List Str) → y ∈ (["InvalidSigns", "InvalidStates", "InvalidRows", "InvalidTurns"] : List Str) → decide (x = y) = b → PySem.W.exmOne K (.ref (He.ga K x)) (.ref (He.ga K y)) = some b := fun hx hy hb => by
    rw [← hb]
    exact m _ hx _ hy
  refine s_seq (s_asg (s_c (s_gName (s_seq (s_tryL ?_)))))
  refine s_seq (s_drop ?_)
  refine s_act rfl hc (E1 := HeardE K heards14 Q) (Q1 := fun _ H' => FinH K sNothing .non H' Q) ?_ ?_ h
  · rintro cls dd H' ⟨C, fl, w, hm, rfl, d, v, rfl, hx, hf⟩
    simp only [heards14, List.mem_cons, List.not_mem_nil, or_false, Prod.mk.injEq] at hm
    rcases hm with ⟨rfl, rfl, rfl⟩ | ⟨rfl, rfl, rfl⟩ | ⟨rfl, rfl, rfl⟩ | ⟨rfl, rfl, rfl⟩
    · refine ⟨true, ex (by simp) (by simp) (by decide +kernel), fun _ a ha => ?_, fun z => nomatch z⟩
      refine s_par (s_cons (s_cS (l := s14Signs) (by decide +kernel) (s_cons (s_xf (s_var rfl ⟨rfl, rfl, d, _, v, rfl, hx, rfl, s_nil ⟨_, _, rfl, ?_⟩⟩)))))
      exact s_ret (s_lst (s_cons (s_var (v := vS s14Signs) rfl (s_cons (s_call (s_cons (s_var rfl (s_nil (fin plain_14.1 hf)))))))))
    · refine ⟨false, ex (by simp) (by simp) (by decide +kernel), (fun z => nomatch z), fun _ => ?_⟩
      refine ⟨true, ex (by simp) (by simp) (by decide +kernel), fun _ a ha => ?_, fun z => nomatch z⟩
      refine s_par (s_cons (s_cS (l := s14States) (by decide +kernel) (s_cons (s_xf (s_var rfl ⟨rfl, rfl, d, _, v, rfl, hx, rfl, s_nil ⟨_, _, rfl, ?_⟩⟩)))))
      exact s_ret (s_lst (s_cons (s_var (v := vS s14States) rfl (s_cons (s_call (s_cons (s_var rfl (s_nil (fin plain_14.2.1 hf)))))))))
    · refine ⟨false, ex (by simp) (by simp) (by decide +kernel), (fun z => nomatch z), fun _ => ?_⟩
      refine ⟨false, ex (by simp) (by simp) (by decide +kernel), (fun z => nomatch z), fun _ => ?_⟩
      refine ⟨true, ex (by simp) (by simp) (by decide +kernel), fun _ a ha => ?_, fun z => nomatch z⟩
      refine s_par (s_cons (s_cS (l := s14Rows) (by decide +kernel) (s_cons (s_xf (s_var rfl ⟨rfl, rfl, d, _, v, rfl, hx, rfl, s_nil ⟨_, _, rfl, ?_⟩⟩)))))
      exact s_ret (s_lst (s_cons (s_var (v := vS s14Rows) rfl (s_cons (s_call (s_cons (s_var rfl (s_nil (fin plain_14.2.2.1 hf)))))))))
    · refine ⟨false, ex (by simp) (by simp) (by decide +kernel), (fun z => nomatch z), fun _ => ?_⟩
      refine ⟨false, ex (by simp) (by simp) (by decide +kernel), (fun z => nomatch z), fun _ => ?_⟩
      refine ⟨false, ex (by simp) (by simp) (by decide +kernel), (fun z => nomatch z), fun _ => ?_⟩
      refine ⟨true, ex (by simp) (by simp) (by decide +kernel), fun _ a ha => ?_, fun z => nomatch z⟩
      refine s_par (s_cons (s_cS (l := s14Turns) (by decide +kernel) (s_cons (s_xf (s_var rfl ⟨rfl, rfl, d, _, v, rfl, hx, rfl, s_nil ⟨_, _, rfl, ?_⟩⟩)))))
      exact s_ret (s_lst (s_cons (s_var (v := vS s14Turns) rfl (s_cons (s_call (s_cons (s_var rfl (s_nil (fin plain_14.2.2.2.1 hf)))))))))
  · intro v H' hf
    refine s_asg (s_cS (l := sNothing) (by decide +kernel) (s_gName ?_))
    exact s_ret (s_lst (s_cons (s_var (v := vS sNothing) rfl (s_cons (s_call (s_cons (s_var rfl (s_nil (fin plain_14.2.2.2.2 hf)))))))))
end
end WB
namespace WB
open PySem PySem.Spec PyProof.Rows L2
structure MD where
  n : Nat
  s : List Nat
  nm : List (List Nat)
  T : Nat → Nat → Nat × Int
  En : Nat → Nat × Int
  ys : List Nat
section
variable {K : PySem.W.Frag} {H H' : Hp} {Q : VK} {E : XK} {a q : Addr} {D : MD}
theorem inV_I {x : Int} {ls : List Int} : inV (.int x) (ls.map V.int) = decide (x ∈ ls) := by
  unfold inV
  rw [List.any_map, Bool.eq_iff_iff, List.any_eq_true, decide_eq_true_iff]
  constructor
  · rintro ⟨y, hy, e⟩
    have e : eqV (.int y) (.int x) = true := e
    have e : (y == x) = true := e
    rw [← eq_of_beq e]; exact hy
  · intro h
    exact ⟨x, h, by show (x == x) = true; simp⟩
theorem flat_I : ∀ ls : List Int, (ls.map V.int).all flatV = true
  | [] => rfl
  | x :: r => by rw [List.map_cons, List.all_cons, flat_I r]; rfl
theorem s_inI {x : Int} {ls : List Int} (h : SqL K H a (ls.map V.int)) (k : Q (.bl (decide (x ∈ ls))) H) : rIn K false (.int x) (.ref a) H Q := ⟨a, _, rfl, .inl h, rfl, flat_I ls, by rw [inV_I]; exact k⟩
end
end WB
namespace WB
open PySem PySem.Spec PyProof.Rows L2 LamX
theorem l27c_114_111_119 : ("row" : Str) = S [114, 111, 119] := by decide +kernel
theorem l27c_116_117_114_110 : ("turn" : Str) = S [116, 117, 114, 110] := by decide +kernel
theorem l27c_98_101_103_105_110 : ("begin" : Str) = S [98, 101, 103, 105, 110] := by decide +kernel
theorem l27c_122_122 : ("zz" : Str) = S [122, 122] := by decide +kernel
section
variable {K : PySem.W.Frag} {vs : List V} {H H' : Hp} {Q : VK} {E : XK}
def OdK (K : PySem.W.Frag) (H : Hp) (v : V) : Prop := ElK K H v ∧ ∃ d, ThK K H v d
theorem OdK.ex0 {v : V} (e : Ex [] H H') (h : OdK K H v) : OdK K H' v := ⟨h.1.ex0 e, let ⟨d, hd⟩ := h.2; ⟨d, hd.ex0 e⟩⟩
theorem oth_odd {m : List Addr} {v : V} (h : OddAt m H v) : OdK K H v := by
  cases h with
  | non => exact ⟨.oth .non, _, .non⟩
  | bl b => exact ⟨.oth (.bl b), _, .bl b⟩
  | int i h => exact ⟨.oth (.int i), _, .int i⟩
  | str l h => exact ⟨.str l (Nat.le_trans (oddS_len h) (by decide)), _, .str l⟩
  | l0 n h => exact ⟨.oth (.lst h), _, .lst h⟩
  | l1 n h => exact ⟨.oth (.lst h), _, .lst h⟩
  | d0 n h => exact ⟨.oth (.dict h), _, .dict h⟩
  | d1 n h => exact ⟨.oth (.dict h), _, .dict h⟩
  | t0 n h => exact ⟨.oth (.tup (SqT.of h)), _, .tup (SqT.of h) (by simp) (by simp)⟩
  | t1 n h => exact ⟨.oth (.tup (SqT.of h)), _, .tup (SqT.of h) (by simp) fun x hx => by
      rw [List.mem_singleton.mp hx]; exact .str _ (by decide)⟩
  | t2 n h => exact ⟨.oth (.tup (SqT.of h)), _, .tup (SqT.of h) (by simp) fun x hx => by
      simp only [List.mem_cons, List.not_mem_nil, or_false] at hx
      rcases hx with rfl | rfl <;> exact .oth (.int _)⟩
  | t3 n nb nc nd ne h hb hc hd he => exact ⟨.oth (.tup (SqT.of h)), _, .tup (SqT.of h) (by simp) fun x hx => by
      simp only [List.mem_cons, List.not_mem_nil, or_false] at hx
      rcases hx with rfl | rfl
      · exact .oth (.lst hb)
      · exact .oth (.dict hc)⟩
def PlV (x : V) : Prop := (∃ l, l.length ≤ 10000 ∧ x = vS l) ∨ ∃ i, x = .int i
theorem PlV.el {x : V} : PlV x → ElK K H x
  | .inl ⟨l, h, e⟩ => by rw [e]; exact .str l h
  | .inr ⟨i, e⟩ => by rw [e]; exact .oth (.int i)
theorem sq0 {p : Addr} {xs : List V} (e : Ex [] H H') (h : SqT K H p xs) : SqT K H' p xs := e.sqT (by simp) h
theorem s_listT {b : Addr} {xs : List V} (h : SqT K H b xs) (k : ∀ q H2, H q = none → Ex [] H H2 → H2 q = some (.lst xs) → Q (.ref q) H2) : rListOf K [.ref b] H Q := ⟨b, xs, rfl, .inr h, s_new k⟩
theorem mem_sl {x v : V} {xs : List V} {n m : Nat} (h : x ∈ xs.take n ++ [v] ++ xs.drop m) : x = v ∨ x ∈ xs := by
  simp only [List.mem_append, List.mem_singleton] at h
  rcases h with (h | h) | h
  · exact .inr (List.mem_of_mem_take h)
  · exact .inl h
  · exact .inr (List.mem_of_mem_drop h)
end
end WB
namespace WB
open PySem PySem.Spec PyProof.Rows L2 LamX
theorem l14d_97 : ("a" : Str) = S [97] := by decide +kernel
theorem l14d_97_98 : ("ab" : Str) = S [97, 98] := by decide +kernel
theorem l14d_65 : ("A" : Str) = S [65] := by decide +kernel
theorem l14d_97_32_98 : ("a b" : Str) = S [97, 32, 98] := by decide +kernel
theorem l14d_97_97 : ("aa" : Str) = S [97, 97] := by decide +kernel
theorem l14d_97_10 : ("a\n" : Str) = S [97, 10] := by decide +kernel
theorem l14d_97_98_99_100_101 : ("abcde" : Str) = S [97, 98, 99, 100, 101] := by decide +kernel
local macro_rules | `(tactic| walk_at "lit") => `(tactic| first | exact l14d_97 | exact l14d_97_98 | exact l14d_65 | exact l14d_97_32_98 | exact l14d_97_97 | exact l14d_97_10 | exact l14d_97_98_99_100_101)
local macro_rules | `(tactic| walk_at "lit") => `(tactic| first | exact lit_abc | exact lit_empty)
local macro_rules | `(tactic| walk_at "nm") => `(tactic| focus first | exact List.not_mem_nil | (simp only [List.mem_singleton]; first | assumption | (exact Ne.symm (by assumption)) | (intro hz; subst hz; simp_all; done)))
local macro_rules | `(tactic| walk_at "hp") => `(tactic| first | assumption | (apply Ex.get0 (by assumption); walk_at "hp") | (apply Ex.get (by assumption); (walk_at "nm"); (walk_at "hp")))
local macro_rules | `(tactic| walk_at "sq") => `(tactic| first | assumption | (apply SqL.of; walk_at "hp") | (apply Ex.sqL (by assumption); (walk_at "nm"); (walk_at "sq")))
local macro_rules | `(tactic| walk_at "sqt") => `(tactic| first | assumption | (apply SqT.of; walk_at "hp") | (apply Ex.sqT (by assumption); (walk_at "nm"); (walk_at "sqt")))
local macro_rules | `(tactic| walk_at "sz") => `(tactic| focus ((with_reducible refine Nat.le_trans (m := 100000) ?_ (by decide)); first | omega | (simp; done) | (simp; omega)))
local macro_rules | `(tactic| walk_at "mul") => `(tactic| first | exact Or.inr ⟨by omega, by omega⟩ | exact Or.inl ⟨by omega, by omega⟩)
local macro_rules | `(tactic| walk_at "pool") => `(tactic| first | assumption | (apply PoolAt.ex (by assumption); (walk_at "nm"); (walk_at "pool")))
local macro_rules | `(tactic| walk_at "ring") => `(tactic| first | assumption | (apply RingAt.ex (by assumption); (walk_at "nm"); (walk_at "ring")))
local macro_rules | `(tactic| walk_at "st") => `(tactic| first
  | with_reducible refine s_seq ?_
  | with_reducible refine s_asg ?_
  | with_reducible refine s_gName ?_
  | with_reducible refine s_ret ?_
  | with_reducible refine s_ifS ?_
  | with_reducible refine s_next ?_
  | with_reducible refine s_op ?_
  | ((with_reducible apply s_var); exact rfl)
  | ((with_reducible apply s_cS); (walk_at "lit"))
  | with_reducible refine s_c ?_
  | with_reducible refine s_cb ?_
  | with_reducible refine s_cons ?_
  | with_reducible refine s_nil ?_
  | with_reducible refine s_un ?_
  | with_reducible refine s_call ?_
  | with_reducible refine s_test ?_
  | with_reducible refine s_tB ?_
  | with_reducible refine s_blQ ?_
  | with_reducible refine s_not ?_
  | with_reducible refine s_and ?_
  | with_reducible refine s_or ?_
  | with_reducible refine s_andV ?_
  | with_reducible refine s_orV ?_
  | with_reducible refine s_notV ?_
  | with_reducible refine s_ifE ?_
  | with_reducible refine s_chain ?_
  | ((with_reducible refine s_T ?_ ?_); (with_reducible exact rfl))
  | with_reducible refine s_nT ?_
  | with_reducible refine s_nF ?_
  | ((with_reducible refine s_F ?_ ?_); (with_reducible exact rfl))
  | ((with_reducible refine s_T ?_ ?_); assumption)
  | ((with_reducible refine s_F ?_ ?_); assumption)
  | ((with_reducible refine s_nB ?_ ?_); assumption)
  | ((with_reducible refine s_nA ?_ ?_); assumption)
  | ((with_reducible refine s_Td ?_ ?_); omega)
  | ((with_reducible refine s_Fd ?_ ?_); omega)
  | ((with_reducible refine s_nTd ?_ ?_); omega)
  | ((with_reducible refine s_nFd ?_ ?_); omega)
  | with_reducible refine s_sfld ?_
  | with_reducible refine s_addI ?_
  | with_reducible refine s_subI ?_
  | ((with_reducible refine s_mulI ?_ ?_); (walk_at "mul"))
  | ((with_reducible refine s_divI ?_ ?_); exact ⟨by omega, by omega⟩)
  | ((with_reducible refine s_modI ?_ ?_); omega)
  | ((with_reducible refine s_powI ?_ ?_); exact ⟨by decide, by decide, by decide⟩)
  | with_reducible refine s_ltI ?_
  | with_reducible refine s_leI ?_
  | with_reducible refine s_gtI ?_
  | with_reducible refine s_geI ?_
  | with_reducible refine s_negI ?_
  | with_reducible refine s_absI ?_
  | with_reducible refine s_intI ?_
  | with_reducible refine s_min2 ?_
  | with_reducible refine s_max2 ?_
  | with_reducible refine s_eqI ?_
  | with_reducible refine s_neI ?_
  | with_reducible refine s_eqS ?_
  | with_reducible refine s_neS ?_
  | with_reducible refine s_inSg ?_
  | with_reducible refine s_notInSg ?_
  | ((with_reducible refine s_addS ?_ ?_); (walk_at "sz"))
  | ((with_reducible refine s_lenS ?_ ?_); (walk_at "sz"))
  | ((with_reducible apply s_lenL); (walk_at "sq"))
  | ((with_reducible apply s_lenT); (walk_at "sqt"))
  | ((with_reducible apply s_ixL); (walk_at "sq"); exact rfl)
  | ((with_reducible apply s_ixT); (walk_at "sqt"); exact rfl)
  | with_reducible refine s_gSub ?_
  | ((with_reducible apply s_setL); (walk_at "hp"); (exact rfl); (intro _ _ _))
  | ((with_reducible refine s_alloc ?_ ?_); (walk_at "sz"); (intro _ _ _ _ _))
  | ((with_reducible refine s_divmod ?_ ?_); (exact ⟨by omega, PyProof.noPylong_small (by omega)⟩); (intro _ _ _ _ _))
  | ((with_reducible apply s_gTup); (walk_at "sqt"); (exact rfl))
  | ((with_reducible apply s_gLst); (walk_at "sq"); (exact rfl))
  | with_reducible refine s_gCons ?_
  | with_reducible refine s_gNil ?_
  | with_reducible refine s_lc ?_
  | ((with_reducible apply s_cat); (walk_at "hp"); (walk_at "hp"); (walk_at "sz"); (intro _ _ _ _ _))
  | ((with_reducible apply s_slL); (walk_at "sq"); (intro _ _ _ _ _))
  | with_reducible refine s_for ?_
  | with_reducible refine s_rng1 ?_
  | ((with_reducible refine s_rng1i ?_ ?_); (constructor <;> omega))
  | with_reducible refine s_rng2 ?_
  | ((with_reducible refine s_rng2i ?_ ?_); (refine ⟨?_, ?_, ?_, ?_⟩ <;> omega))
  | with_reducible refine s_iStr ?_
  | with_reducible refine s_iStrS ?_
  | with_reducible refine s_iList ?_
  | ((with_reducible apply s_iListA); (walk_at "sq"))
  | with_reducible refine s_iTup ?_
  | ((with_reducible apply s_iTupA); (walk_at "sqt"))
  | with_reducible refine s_sl ?_
  | with_reducible refine s_noPart ?_
  | with_reducible refine s_part ?_
  | with_reducible refine s_int1 ?_
  | ((with_reducible refine s_slS ?_ ?_); (walk_at "sz"))
  | with_reducible refine s_tup ?_
  | with_reducible refine s_lst ?_
  | with_reducible refine s_par ?_
  | with_reducible refine s_pair ?_
  | with_reducible refine s_M1 ?_
  | with_reducible refine s_isStr ?_
  | with_reducible refine s_revS ?_
  | ((with_reducible refine s_revS1 ?_ ?_); (walk_at "sz"))
  | with_reducible refine s_fldE ?_
  | with_reducible refine s_propE ?_
  | ((with_reducible refine u_draw ?_ ?_ ?_ ?_); omega; omega; (walk_at "pool"); (intro _ _ _ _ _ _))
  | ((with_reducible refine u_pool ?_); (intro _ _ _ _ _))
  | with_reducible refine u_is_integer ?_
  | with_reducible refine s_isiII ?_
  | with_reducible refine s_isiIB ?_
  | with_reducible refine s_isiSS ?_
  | ((with_reducible apply u_fldRing); assumption; (walk_at "ring"))
  | ((with_reducible apply u_textP); (walk_at "ring"))
  | ((with_reducible apply u_strRing); (walk_at "ring"))
  | ((with_reducible apply u_eqRing); (walk_at "ring"); (walk_at "ring"))
  | ((with_reducible apply u_isiRing); assumption; (walk_at "ring"))
  | ((with_reducible refine u_is_word ?_ ?_); omega; (intro _ _))
  | ((with_reducible refine u_turnings ?_ ?_); omega; (intro _ _ _ _ _))
  | with_reducible refine s_makeE ?_
  | with_reducible refine s_methE ?_)
local macro_rules | `(tactic| walk_at "go") => `(tactic| repeat (walk_at "st"))
local macro_rules | `(tactic| walk_at "exs") => `(tactic| first | exact Ex.rfl | assumption | (apply Ex.snoc (by assumption); walk_at "exs") | (apply Ex.snocW (by assumption); walk_at "exs"))
local macro_rules | `(tactic| walk_at "odd") => `(tactic| first | assumption | (apply OddAt.ex (by assumption); (walk_at "odd")))
local macro_rules | `(tactic| walk_at "st") => `(tactic| first
  | with_reducible refine s_inStr ?_
  | with_reducible refine s_pairs1 ?_
  | ((with_reducible refine s_dnew ?_); (intro _ _ _ _ _)))
local macro_rules | `(tactic| walk_at "kind") => `(tactic| first | assumption | (apply KindAt.ex0 (by assumption); (walk_at "kind")) | (apply KindAt.exP (by assumption) (by assumption); (walk_at "kind")))
local macro_rules | `(tactic| walk_at "st") => `(tactic| first
  | with_reducible refine s_lenSet ?_
  | with_reducible refine s_drop ?_
  | with_reducible refine s_bm ?_
  | with_reducible refine s_notN ?_
  | with_reducible refine s_isN ?_
  | ((with_reducible apply s_tyL); (walk_at "hp"))
  | with_reducible refine s_enumT ?_
  | ((with_reducible apply s_enumTA); (walk_at "sqt"))
  | with_reducible refine s_lc2 ?_)
local macro_rules | `(tactic| walk_at "lit") => `(tactic| exact lit_MRK)
local macro_rules | `(tactic| walk_at "st") => `(tactic| first
  | with_reducible refine s_dcT ?_
  | with_reducible refine s_dc ?_)
local macro_rules | `(tactic| walk_at "lit") => `(tactic| exact lit_z)
def t_law_bent (K : PySem.W.Frag) : TS :=
  (tSeq (tPar 3 4 (tCons (tCall (sp_law_draw K) [] E0 (tCons (tVar 0) (tCons (tC (.int 6)) tNil))) (tCons (tCall (sp_law_draw K) [] E0 (tCons (tVar 0) (tCons (tOp rAddI (tCB (rLenV K) (tCons (tVar 1) tNil)) (tC (.int 1))) tNil))) tNil)))
  (tSeq (tIfS (tTest (tOp rLtI (tVar 3) (tC (.int 2)))) (tRet (tOp (rCatA K) (tOp (rCatA K) (tSl (rSlA K) (tVar 1) tNoPart (tPart (tVar 4))) (tTup (tCons (tVar 2) tNil))) (tSl (rSlA K) (tVar 1) (tPart (tOp rAddI (tVar 4) (tVar 3))) tNoPart))) tNext)
  (tSeq (tIfS (tTest (tOp rEq (tVar 3) (tC (.int 2)))) (tRet (tOp (rCatA K) (tOp (rCatA K) (tSl (rSlA K) (tVar 1) tNoPart (tPart (tVar 4))) (tSl (rSlA K) (tVar 1) tNoPart (tPart (tC (.int 1))))) (tSl (rSlA K) (tVar 1) (tPart (tVar 4)) tNoPart))) tNext)
  (tSeq (tIfS (tTest (tOp rEq (tVar 3) (tC (.int 3)))) (tRet (tOp (rCatA K) (tSl (rSlA K) (tVar 1) tNoPart (tPart (tVar 4))) (tSl (rSlA K) (tVar 1) (tPart (tOp rAddI (tVar 4) (tC (.int 1)))) tNoPart))) tNext)
  (tRet (tIf (tTest (tOp rEq (tVar 3) (tC (.int 4)))) (tOp (rCatA K) (tSl (rSlA K) (tVar 1) tNoPart (tPart (tVar 4))) (tRevA K (tSl (rSlA K) (tVar 1) (tPart (tVar 4)) tNoPart))) (tCB (rListOf K) (tCons (tVar 1) tNil))))))))
def t_law_namesA (K : PySem.W.Frag) : TS :=
  (tSeq (tAsg (tLst tNil) (gName 2))
  (tSeq (tFor (iRng1 (tCons (tVar 1) tNil)) (gName 3) (tDrop (tBM K "list" rAppend (tVar 2) (tCons (tCall (sp_law_name K) [] E0 (tCons (tVar 0) (tCons (tVar 2) tNil))) tNil))))
  (tRet (tVar 2))))
def t_law_oddM (K : PySem.W.Frag) : TS :=
  (tSeq (tAsg (tCall (sp_law_draw K) [] E0 (tCons (tVar 0) (tCons (tC (.int 27)) tNil))) (gName 1))
  (tSeq (tIfS (tTest (tOp rLtI (tVar 1) (tC (.int 11)))) (tRet (tOp (rIxL K) (tLst (tCons (tC .non) (tCons (tC (.bl true)) (tCons (tC (.bl false)) (tCons (tC (.int 0)) (tCons (tC (.int 1)) (tCons (tUn rNegI (tC (.int 1))) (tCons (tC (.int 2)) (tCons (tC (.int 7)) (tCons (tC (.int 600)) (tCons (tOp rPowI (tC (.int 10)) (tC (.int 38))) (tCons (tUn rNegI (tOp rPowI (tC (.int 10)) (tC (.int 38)))) tNil)))))))))))) (tVar 1))) tNext)
  (tSeq (tIfS (tTest (tOp rLtI (tVar 1) (tC (.int 19)))) (tRet (tOp (rIxL K) (tLst (tCons (tC (.str "")) (tCons (tC (.str "a")) (tCons (tC (.str "ab")) (tCons (tC (.str "A")) (tCons (tC (.str "a b")) (tCons (tC (.str "aa")) (tCons (tC (.str "a\n")) (tCons (tC (.str "abcde")) tNil))))))))) (tOp rSubI (tVar 1) (tC (.int 11))))) tNext)
  (tSeq (tIfS (tTest (tOp rLtI (tVar 1) (tC (.int 23)))) (tRet (tOp (rIxL K) (tLst (tCons (tLst tNil) (tCons (tLst (tCons (tC (.str "a")) tNil)) (tCons tDNewK (tCons (tDisp [((tC (.str "a")), (tC (.int 1)))]) tNil))))) (tOp rSubI (tVar 1) (tC (.int 19))))) tNext)
  (tRet (tOp (rIxL K) (tLst (tCons (tTup tNil) (tCons (tTup (tCons (tC (.str "a")) tNil)) (tCons (tTup (tCons (tC (.int 0)) (tCons (tC (.int 1)) tNil))) (tCons (tTup (tCons (tLst tNil) (tCons (tDisp [((tC (.str "a")), (tTup (tCons (tC (.int 1)) (tCons (tLst tNil) tNil))))]) tNil))) tNil))))) (tOp rSubI (tVar 1) (tC (.int 23)))))))))
section
variable {K : PySem.W.Frag} {vs : List V} {H : Hp} {Q : VK} {E : XK}
theorem pure_law_oddM (h : sp_law_oddM K vs H Q E) : t_law_oddM K (E1 Q) (start ["_law_pool_here", "_law_way"] vs) H := by
  obtain ⟨a, m, rfl, hp, hm, k⟩ := h
  show t_law_oddM K (E1 Q) [some (.ref a), none] H
  unfold t_law_oddM
  walk_at "go"
  rename_i w H1 w0 w1 e1 p1
  have na : ∀ {p : Addr}, H1 p = none → p ∉ m := fun {p} hn hz => by
    by_cases z : p = a
    · exact p1.there (by rw [← z]; exact hn)
    · cases hp' : H p with
      | none => exact hm p hz hp'
      | some o => rw [e1 p o (by simpa using z) hp'] at hn; cases hn
  refine s_2 (fun hb => ?_) (fun hb => ?_)
  · have hb := of_decide_eq_true hb
    walk_at "go"
    rename_i p H2 hn e2 h2
    have p2 : PoolAt H2 a := by walk_at "pool"
    have e12 : Ex [a] H H2 := by walk_at "exs"
    rcases (show w = 0 ∨ w = 1 ∨ w = 2 ∨ w = 3 ∨ w = 4 ∨ w = 5 ∨ w = 6 ∨ w = 7 ∨ w = 8 ∨ w = 9 ∨ w = 10 by omega) with rfl | rfl | rfl | rfl | rfl | rfl | rfl | rfl | rfl | rfl | rfl
    · exact s_ixL (SqL.of h2) rfl (k _ _ e12 p2 .non)
    · exact s_ixL (SqL.of h2) rfl (k _ _ e12 p2 (.bl _))
    · exact s_ixL (SqL.of h2) rfl (k _ _ e12 p2 (.bl _))
    all_goals exact s_ixL (SqL.of h2) rfl (k _ _ e12 p2 (.int _ (by decide +kernel)))
  walk_at "go"
  have hb := of_decide_eq_false hb
  refine s_2 (fun hb2 => ?_) (fun hb2 => ?_)
  · have hb2 := of_decide_eq_true hb2
    walk_at "go"
    rename_i p H2 hn e2 h2
    have p2 : PoolAt H2 a := by walk_at "pool"
    have e12 : Ex [a] H H2 := by walk_at "exs"
    rcases (show w = 11 ∨ w = 12 ∨ w = 13 ∨ w = 14 ∨ w = 15 ∨ w = 16 ∨ w = 17 ∨ w = 18 by omega) with rfl | rfl | rfl | rfl | rfl | rfl | rfl | rfl
    all_goals exact s_ixL (SqL.of h2) rfl (k _ _ e12 p2 (.str _ (by decide)))
  walk_at "go"
  have hb2 := of_decide_eq_false hb2
  refine s_2 (fun hb3 => ?_) (fun hb3 => ?_)
  · have hb3 := of_decide_eq_true hb3
    walk_at "go"
    rename_i q1 H2 n2 e2 h2 q2 H3 n3 e3 h3 q3 H4 n4 e4 h4
    refine s_disp1 (z := kA) (v := .int 1) (fun _ _ _ _ _ R kk => ?_) fun q4 H5 n5 e5 h5 => ?_
    · walk_at "go"
      exact kk _ Ex.rfl
    walk_at "go"
    rename_i p H6 n6 e6 h6
    have p6 : PoolAt H6 a := by walk_at "pool"
    have e12 : Ex [a] H H6 := by walk_at "exs"
    rcases (show w = 19 ∨ w = 20 ∨ w = 21 ∨ w = 22 by omega) with rfl | rfl | rfl | rfl
    · exact s_ixL (SqL.of h6) rfl (k _ _ e12 p6 (.l0 (na n2) (by walk_at "hp")))
    · exact s_ixL (SqL.of h6) rfl (k _ _ e12 p6 (.l1 (na (e2.free n3)) (by walk_at "hp")))
    · exact s_ixL (SqL.of h6) rfl (k _ _ e12 p6 (.d0 (na (e2.free (e3.free n4))) (by walk_at "hp")))
    · exact s_ixL (SqL.of h6) rfl (k _ _ e12 p6 (.d1 (na (e2.free (e3.free (e4.free n5)))) (by walk_at "hp")))
  · have hb3 := of_decide_eq_false hb3
    walk_at "go"
    rename_i q1 H2 n2 e2 h2 q2 H3 n3 e3 h3 q3 H4 n4 e4 h4 q4 H5 n5 e5 h5
    intro c hc
    walk_at "go"
    rename_i q5 H6 n6 e6 h6 q6 H7 n7 e7 h7
    have e5c : Ex [] H5 (upd H5 c (.dK [])) := Ex.new hc
    have hcc : (upd H5 c (.dK [])) c = some (.dK []) := upd_same
    have hc7 : H7 c = some (.dK []) := by walk_at "hp"
    refine ⟨hc7, [(kA, .ref q6)], rfl, by simp, ?_⟩
    rw [show mergeK [] [(kA, V.ref q6)] = [(kA, V.ref q6)] from rfl]
    have e7c : Ex [c] H7 (upd H7 c (.dK [(kA, .ref q6)])) := Ex.put (by simp)
    have hc8 : (upd H7 c (.dK [(kA, .ref q6)])) c = some (.dK [(kA, .ref q6)]) := upd_same
    have g : ∀ {H8 : Hp}, H8 = upd H7 c (.dK [(kA, .ref q6)]) → Ex [] H5 H8 := fun {H8} ez b o _ hb => by
      rw [ez, upd_ne (ne_of_none hb hc)]
      exact e7 b o (by simp) (e6 b o (by simp) (e5c b o (by simp) hb))
    have n6' : H5 q5 = none := e5c.free n6
    have n7' : H5 q6 = none := e5c.free (e6.free n7)
    have ne1 : q5 ≠ c := fun z => by rw [z, hcc] at n6; cases n6
    have ne2 : q6 ≠ c := fun z => by rw [z, e6 c _ (by simp) hcc] at n7; cases n7
    have h6' : (upd H7 c (.dK [(kA, .ref q6)])) q5 = some (.lst []) := by rw [upd_ne ne1]; exact e7 _ _ (by simp) h6
    have h7' : (upd H7 c (.dK [(kA, .ref q6)])) q6 = some (.tup [.int 1, .ref q5]) := by rw [upd_ne ne2]; exact h7
    have e58 := g rfl
    revert h6' h7' e58 hc8
    generalize upd H7 c (.dK [(kA, .ref q6)]) = H8
    intro hc8 h6' h7' e58
    clear g e7c hc7 e5c hcc
    walk_at "go"
    rename_i q7 H9 n9 e9 h9 p Ha na' ea ha
    have pa : PoolAt Ha a := by
      have p5 : PoolAt H5 a := by walk_at "pool"
      have p8 : PoolAt H8 a := PoolAt.ex e58 (by simp) p5
      walk_at "pool"
    have e12 : Ex [a] H Ha := by
      have e15 : Ex [a] H H5 := by walk_at "exs"
      have e18 : Ex [a] H H8 := e15.trans e58.wide
      walk_at "exs"
    have f15 : ∀ {p : Addr}, H5 p = none → H1 p = none := fun {p} z => e2.free (e3.free (e4.free (e5.free z)))
    rcases (show w = 23 ∨ w = 24 ∨ w = 25 ∨ w = 26 by omega) with rfl | rfl | rfl | rfl
    · exact s_ixL (SqL.of ha) rfl (k _ _ e12 pa (.t0 (na n2) (ea.get0 (e9.get0 (e58.get0 (by walk_at "hp"))))))
    · exact s_ixL (SqL.of ha) rfl (k _ _ e12 pa (.t1 (na (e2.free n3)) (ea.get0 (e9.get0 (e58.get0 (by walk_at "hp"))))))
    · exact s_ixL (SqL.of ha) rfl (k _ _ e12 pa (.t2 (na (e2.free (e3.free n4))) (ea.get0 (e9.get0 (e58.get0 (by walk_at "hp"))))))
    · exact s_ixL (SqL.of ha) rfl (k _ _ e12 pa (.t3 (na (f15 (e58.free n9))) (na (e2.free (e3.free (e4.free n5)))) (na (f15 hc)) (na (f15 n7')) (na (f15 n6')) (ea.get0 h9) (ea.get0 (e9.get0 (e58.get0 h5))) (ea.get0 (e9.get0 hc8)) (ea.get0 (e9.get0 h7')) (ea.get0 (e9.get0 h6'))))
end
section
variable {K : PySem.W.Frag} {vs : List V} {H H' : Hp} {Q : VK} {E : XK} {a q r : Addr} {m : List Addr} {v : V} {xs : List V}
theorem far1 : Far a [a] H := fun b hb => .inl (List.mem_singleton.mp hb)
theorem Far.there (hp : PoolAt H a) (h : Far a m H) : ∀ b ∈ m, H b ≠ none := fun b hb z => by
  rcases h b hb with rfl | ⟨xs, h⟩
  · exact hp.there z
  · rw [z] at h; cases h
theorem Far.exP (hp : PoolAt H a) (e : Ex [a] H H') (h : Far a m H) : Far a m H' := fun b hb => by
  rcases h b hb with h | ⟨xs, h2⟩
  · exact .inl h
  · by_cases z : b = a
    · exact .inl z
    · exact .inr ⟨xs, e _ _ (by simpa using z) h2⟩
theorem Far.ex0 (e : Ex [] H H') (h : Far a m H) : Far a m H' := fun b hb => by
  rcases h b hb with h | ⟨xs, h2⟩
  · exact .inl h
  · exact .inr ⟨xs, e.get0 h2⟩
theorem Far.not {x : Addr} {o : HO} (hf : Far a m H) (n : x ≠ a) (hx : H x = some o) (ho : ∀ xs : List V, o ≠ .lst xs) : x ∉ m := fun z => by
  rcases hf x z with h | ⟨xs, h2⟩
  · exact n h
  · rw [hx] at h2
    exact ho xs (Option.some.inj h2)
theorem Far.notT {x : Addr} {ys : List V} (hp : PoolAt H a) (hf : Far a m H) (hx : H x = some (.tup ys) ∨ ∃ o, H x = some (.frz o (.tup ys))) : x ∉ m := by
  obtain ⟨i, j, k, hp⟩ := hp
  rcases hx with hx | ⟨o, hx⟩
  · exact hf.not (fun z => by rw [z, hp] at hx; cases hx) hx fun _ z => by cases z
  · exact hf.not (fun z => by rw [z, hp] at hx; cases hx) hx fun _ z => by cases z
theorem sqT_far {t : Addr} (hp : PoolAt H a) (hf : Far a m H) (e : ExN m H H') (h : SqT K H t xs) : SqT K H' t xs := by
  rcases h with (h | ⟨o, h⟩) | h
  · exact .inl (.inl (e _ _ (hf.notT hp (.inl h)) h fun _ z => by cases z))
  · exact .inl (.inr ⟨o, e _ _ (hf.notT hp (.inr ⟨o, h⟩)) h fun _ z => by cases z⟩)
  · exact .inr h
theorem OddAt.exN (e : ExN m H H') (h : OddAt m H v) : OddAt m H' v := by
  cases h with
  | non => exact .non
  | bl b => exact .bl b
  | int i h => exact .int i h
  | str l h => exact .str l h
  | l0 n h => exact .l0 n (e _ _ n h fun _ z => by cases z)
  | l1 n h => exact .l1 n (e _ _ n h fun _ z => by cases z)
  | d0 n h => exact .d0 n (e _ _ n h fun _ z => by cases z)
  | d1 n h => exact .d1 n (e _ _ n h fun _ z => by cases z)
  | t0 n h => exact .t0 n (e _ _ n h fun _ z => by cases z)
  | t1 n h => exact .t1 n (e _ _ n h fun _ z => by cases z)
  | t2 n h => exact .t2 n (e _ _ n h fun _ z => by cases z)
  | t3 n nb nc nd ne h hb hc hd he => exact .t3 n nb nc nd ne (e _ _ n h fun _ z => by cases z) (e _ _ nb hb fun _ z => by cases z) (e _ _ nc hc fun _ z => by cases z) (e _ _ nd hd fun _ z => by cases z) (e _ _ ne he fun _ z => by cases z)
theorem OddAt.pl (h : OddAt m H v) : plV v := fun l e => by
  cases h with
  | str l' h => rw [vS_eq] at e; rw [← e]; exact oddS_plain h
  | _ => cases e
theorem OddAt.od (h : OddAt m H v) : OdN K m H v := fun H' e => (oth_odd (h.exN e)).1
theorem OddAt.thD (h : OddAt m H v) : ∃ d, (∀ H', ExN m H H' → ThK K H' v d) ∧ plD d := by
  have one : plD (some [vS [97]]) := fun xs e x hx l hl => by
    cases e
    rw [List.mem_singleton.mp hx] at hl
    rw [vS_eq] at hl
    rw [← hl]
    exact plain_a
  have twoI : ∀ i j : Int, plD (some [.int i, .int j]) := fun i j xs e x hx l hl => by
    cases e
    simp only [List.mem_cons, List.not_mem_nil, or_false] at hx
    rcases hx with rfl | rfl <;> cases hl
  have no : plD none := fun xs e => by cases e
  have f : ∀ {x : Addr} {o : HO} {G : Hp}, x ∉ m → H x = some o → (∀ ps, o ≠ .tbl ps) → ExN m H G → G x = some o := fun n h z e => e _ _ n h z
  cases h with
  | non => exact ⟨_, fun _ _ => .non, no⟩
  | bl b => exact ⟨_, fun _ _ => .bl b, no⟩
  | int i h => exact ⟨_, fun _ _ => .int i, no⟩
  | str l h => exact ⟨_, fun _ _ => .str l, no⟩
  | l0 n h => exact ⟨_, fun _ e => .lst (f n h (fun _ z => by cases z) e), no⟩
  | l1 n h => exact ⟨_, fun _ e => .lst (f n h (fun _ z => by cases z) e), no⟩
  | d0 n h => exact ⟨_, fun _ e => .dict (f n h (fun _ z => by cases z) e), no⟩
  | d1 n h => exact ⟨_, fun _ e => .dict (f n h (fun _ z => by cases z) e), no⟩
  | t0 n h => exact ⟨some [], fun _ e => .tup (SqT.of (f n h (fun _ z => by cases z) e)) (by simp) (by simp), fun xs e x hx => by cases e; cases hx⟩
  | t1 n h => exact ⟨_, fun _ e => .tup (SqT.of (f n h (fun _ z => by cases z) e)) (by simp) fun x hx => by
      rw [List.mem_singleton.mp hx]; exact .str _ (by decide), one⟩
  | t2 n h => exact ⟨_, fun _ e => .tup (SqT.of (f n h (fun _ z => by cases z) e)) (by simp) fun x hx => by
      simp only [List.mem_cons, List.not_mem_nil, or_false] at hx
      rcases hx with rfl | rfl <;> exact .oth (.int _), twoI _ _⟩
  | t3 n nb nc nd ne h hb hc hd he => exact ⟨_, fun _ ex => .tup (SqT.of (f n h (fun _ z => by cases z) ex)) (by simp) fun x hx => by
      simp only [List.mem_cons, List.not_mem_nil, or_false] at hx
      rcases hx with rfl | rfl
      · exact .oth (.lst (f nb hb (fun _ z => by cases z) ex))
      · exact .oth (.dict (f nc hc (fun _ z => by cases z) ex)), fun xs e x hx l hl => by
      cases e
      simp only [List.mem_cons, List.not_mem_nil, or_false] at hx
      rcases hx with rfl | rfl <;> cases hl⟩
theorem OddAt.th (h : OddAt m H v) : ∃ d, ThN K m H v d := let ⟨d, h1, _⟩ := h.thD (K := K); ⟨d, h1⟩
theorem ElA.el {x : V} (h : ElA K x) : ElK K H x := by
  rcases h with ⟨w, rfl, h, _⟩ | ⟨i, rfl⟩
  · exact .str w h
  · exact .oth (.int i)
theorem ElA.pl {x : V} (h : ElA K x) : plV x := fun l e => by
  rcases h with ⟨w, rfl, _, h⟩ | ⟨i, rfl⟩
  · rw [vS_eq] at e; rw [← e]; exact h
  · cases e
theorem th_tup {t : Addr} (hp : PoolAt H a) (hf : Far a m H) (h : SqT K H t xs) (hl : xs.length ≤ 10) (he : ∀ x ∈ xs, OdN K m H x) : ThN K m H (.ref t) (some xs) := fun H' e => .tup (sqT_far hp hf e h) hl fun x hx => he x hx H' e
theorem pure_law_bent (h : sp_law_bent K vs H Q E) : t_law_bent K (E1 Q) (start ["_law_pool_here", "_law_some", "_law_odd_here", "_law_way", "_law_at"] vs) H := by
  obtain ⟨a, p, v, rfl, xs, hp0, hn, hp, k⟩ := h
  show t_law_bent K (E1 Q) [some (.ref a), some (.ref p), some v, none, none] H
  unfold t_law_bent
  refine s_seq (s_par (s_cons (s_call (s_cons (s_var (v := .ref a) rfl (s_cons (s_c (s_nil ?_))))))))
  refine u_draw (by decide) (by decide) hp fun w H1 w0 w1 e1 p1 => ?_
  have hp1 := sqT_pool hp e1 hp0
  refine s_cons (s_call (s_cons (s_var (v := .ref a) rfl (s_cons (s_op (s_cb (s_cons (s_var (v := .ref p) rfl (s_nil (s_lenT hp1 (s_c (s_addI (s_nil ?_)))))))))))))
  refine u_draw (by omega) (by omega) p1 fun n H2 n0 n1 e2 p2 => s_nil ⟨_, _, rfl, ?_⟩
  have hx := sqT_pool p1 e2 hp1
  have e02 := e1.trans e2
  clear hp0 hp1 e1 e2 p1
  show tSeq _ _ _ [some (.ref a), some (.ref p), some v, some (.int w), some (.int n)] _
  have fin : ∀ {y : Addr} {ys : List V} {G : Hp}, Ex [] H2 G → SqT K G y ys → ys.length ≤ xs.length + 1 → (∀ z ∈ ys, z = v ∨ z ∈ xs) → Q (.ref y) G := fun e h1 h2 h3 => k _ _ (e02.trans e.wide) (p2.ex e (by simp)) (.inl ⟨_, h1, h2, h3⟩)
  refine s_seq (s_ifS (s_test (s_op (s_var (v := .int w) rfl (s_c (s_ltI (s_blQ ?_)))))))
  by_cases c1 : w < 2
  · refine s_Td c1 (s_ret (s_op (s_op (s_sl (s_var (v := .ref p) rfl (s_noPart (s_part (s_var (v := .int n) rfl (s_int1 (s_slA hx fun y1 G1 f1 g1 => ?_))))))))))
    rw [cutV_to n0] at g1
    refine s_tup (s_cons (s_var (v := v) rfl (s_nil (s_alloc (by show 1 ≤ sizeLine; decide) fun y2 G2 _ f2 g2 => ?_))))
    refine s_catB (sq0 f2 g1) (SqT.of g2) (by simp only [List.length_take, List.length_cons, List.length_nil]; omega) fun y3 G3 f3 g3 => ?_
    have f03 := (f1.trans f2).trans f3
    refine s_sl (s_var (v := .ref p) rfl (s_part (s_op (s_var (v := .int n) rfl (s_var (v := .int w) rfl (s_addI (s_int1 (s_noPart (s_slA (sq0 f03 hx) fun y4 G4 f4 g4 => ?_)))))))))
    rw [cutV_from (by omega)] at g4
    refine s_catB (sq0 f4 g3) g4 (by simp only [List.length_append, List.length_take, List.length_drop, List.length_cons, List.length_nil]; omega) fun y5 G5 f5 g5 => ?_
    refine fin ((f03.trans f4).trans f5) g5 (by simp only [List.length_append, List.length_take, List.length_drop, List.length_cons, List.length_nil]; omega) fun x h => mem_sl h
  refine s_Fd c1 (s_next (s_seq (s_ifS (s_test (s_op (s_var (v := .int w) rfl (s_c (s_eqI (s_blQ ?_)))))))))
  by_cases c2 : w = 2
  · refine s_Td c2 (s_ret (s_op (s_op (s_sl (s_var (v := .ref p) rfl (s_noPart (s_part (s_var (v := .int n) rfl (s_int1 (s_slA hx fun y1 G1 f1 g1 => ?_))))))))))
    rw [cutV_to n0] at g1
    refine s_sl (s_var (v := .ref p) rfl (s_noPart (s_part (s_c (s_int1 (s_slA (sq0 f1 hx) fun y2 G2 f2 g2 => ?_))))))
    rw [cutV_to (by decide)] at g2
    refine s_catB (sq0 f2 g1) g2 (by simp only [List.length_take]; omega) fun y3 G3 f3 g3 => ?_
    have f03 := (f1.trans f2).trans f3
    refine s_sl (s_var (v := .ref p) rfl (s_part (s_var (v := .int n) rfl (s_int1 (s_noPart (s_slA (sq0 f03 hx) fun y4 G4 f4 g4 => ?_))))))
    rw [cutV_from n0] at g4
    refine s_catB (sq0 f4 g3) g4 (by simp only [List.length_append, List.length_take, List.length_drop]; omega) fun y5 G5 f5 g5 => ?_
    refine fin ((f03.trans f4).trans f5) g5 (by simp only [List.length_append, List.length_take, List.length_drop, show (1 : Int).toNat = 1 from rfl]; omega) fun x h => .inr ?_
    simp only [List.mem_append] at h
    rcases h with (h | h) | h
    · exact List.mem_of_mem_take h
    · exact List.mem_of_mem_take h
    · exact List.mem_of_mem_drop h
  refine s_Fd c2 (s_next (s_seq (s_ifS (s_test (s_op (s_var (v := .int w) rfl (s_c (s_eqI (s_blQ ?_)))))))))
  by_cases c3 : w = 3
  · refine s_Td c3 (s_ret (s_op (s_sl (s_var (v := .ref p) rfl (s_noPart (s_part (s_var (v := .int n) rfl (s_int1 (s_slA hx fun y1 G1 f1 g1 => ?_)))))))))
    rw [cutV_to n0] at g1
    refine s_sl (s_var (v := .ref p) rfl (s_part (s_op (s_var (v := .int n) rfl (s_c (s_addI (s_int1 (s_noPart (s_slA (sq0 f1 hx) fun y2 G2 f2 g2 => ?_)))))))))
    rw [cutV_from (by omega)] at g2
    refine s_catB (sq0 f2 g1) g2 (by simp only [List.length_take, List.length_drop]; omega) fun y3 G3 f3 g3 => ?_
    refine fin ((f1.trans f2).trans f3) g3 (by simp only [List.length_append, List.length_take, List.length_drop]; omega) fun x h => .inr ?_
    rcases List.mem_append.mp h with h | h
    · exact List.mem_of_mem_take h
    · exact List.mem_of_mem_drop h
  refine s_Fd c3 (s_next (s_ret (s_ifE (s_test (s_op (s_var (v := .int w) rfl (s_c (s_eqI (s_blQ ?_)))))))))
  by_cases c4 : w = 4
  · refine s_Td c4 (s_op (s_sl (s_var (v := .ref p) rfl (s_noPart (s_part (s_var (v := .int n) rfl (s_int1 (s_slA hx fun y1 G1 f1 g1 => ?_))))))))
    rw [cutV_to n0] at g1
    refine s_revA (s_sl (s_var (v := .ref p) rfl (s_part (s_var (v := .int n) rfl (s_int1 (s_noPart (s_slA (sq0 f1 hx) fun y2 G2 f2 g2 => ?_)))))))
    rw [cutV_from n0] at g2
    refine ⟨y2, _, rfl, g2, fun y7 n7 => ?_⟩
    have f7 : Ex [] G2 (upd G2 y7 (.tup (xs.drop n.toNat).reverse)) := Ex.new n7
    have g7 : (upd G2 y7 (.tup (xs.drop n.toNat).reverse)) y7 = some (.tup (xs.drop n.toNat).reverse) := upd_same
    generalize upd G2 y7 (.tup (xs.drop n.toNat).reverse) = G7 at f7 g7
    refine s_catB (sq0 f7 (sq0 f2 g1)) (SqT.of g7) (by simp only [List.length_reverse, List.length_take, List.length_drop]; omega) fun y3 G3 f3 g3 => ?_
    refine fin (((f1.trans f2).trans f7).trans f3) g3 (by simp only [List.length_append, List.length_reverse, List.length_take, List.length_drop]; omega) fun x h => .inr ?_
    rcases List.mem_append.mp h with h | h
    · exact List.mem_of_mem_take h
    · exact List.mem_of_mem_drop (List.mem_reverse.mp h)
  · refine s_Fd c4 (s_cb (s_cons (s_var (v := .ref p) rfl (s_nil (s_listT hx fun y6 G6 n6 f6 g6 => ?_)))))
    exact k _ _ (e02.trans f6.wide) (p2.ex f6 (by simp)) (.inr ⟨Ex.freeP p2 e02 n6, g6⟩)
theorem pure_law_namesA (h : sp_law_namesA K vs H Q E) : t_law_namesA K (E1 Q) (start ["_law_pool_here", "_law_many", "_law_found", "_law_turn"] vs) H := by
  obtain ⟨a, m, rfl, m1, m6, hp, k⟩ := h
  show t_law_namesA K (E1 Q) [some (.ref a), some (.int m), none, none] H
  unfold t_law_namesA
  walk_at "go"
  rename_i q H1 nq e1 h1
  have hqa : q ≠ a := fun z => hp.there (z ▸ nq)
  refine for_run walk_range (fun i σ G => ∃ (ns : List (List Nat)) (x3 : Option V), σ = [some (.ref a), some (.int m), some (.ref q), x3] ∧ ns.length = i ∧ (∀ n ∈ ns, isName n) ∧ Ex [a] H G ∧ PoolAt G a ∧ G q = some (.lst (ns.map vS))) ⟨[], none, rfl, rfl, by simp, e1.wide, hp.ex e1 (by simp), h1⟩ (fun _ _ _ _ _ => trivial) ?_ ?_
  · rintro i x σ G G2 hi ⟨ns, x3, rfl, hl, hn, e2, p2, h2⟩ ⟨rfl, rfl⟩
    walk_at "go"
    refine u_name hqa h2 hn (by omega) p2 fun n G3 hn3 hni e3 p3 => ?_
    have h3 := e3.get (by simpa using hqa) h2
    walk_at "go"
    refine s_append h3 (Nat.lt_of_le_of_lt (show _ ≤ 100 by simp; omega) (by decide)) fun G4 e4 h4 => ?_
    refine ⟨ns ++ [n], _, rfl, by simp [hl], fun l hl => ?_, Ex.dropN nq (e2.trans e3) e4, p3.ex e4 (by simpa using Ne.symm hqa), by rw [h4, List.map_append]; rfl⟩
    rcases List.mem_append.mp hl with hl | hl
    · exact hn l hl
    · rw [List.mem_singleton.mp hl]; exact hn3
  · rintro σ G ⟨ns, x3, rfl, hl, hn, e2, p2, h2⟩
    walk_at "go"
    exact k ns q _ hn (by omega) nq e2 p2 h2
end
end WB
namespace WB
open PySem PySem.Spec PyProof.Rows L2 LamX
theorem l14e_97 : ("a" : Str) = S [97] := by decide +kernel
def t_law_spoilt_line (K : PySem.W.Frag) : TS :=
  (tSeq (tIfS (tOr (tTest (tOp (rEqD K) (tVar 1) (tTup tNil))) (tTest (tOp rEq (tCall (sp_law_draw K) [] E0 (tCons (tVar 0) (tCons (tC (.int 3)) tNil))) (tC (.int 0))))) (tRet (tCall (sp_law_oddM K) [] E0 (tCons (tVar 0) tNil))) tNext)
  (tSeq (tAsg (tOp (rIxT K) (tVar 1) (tCall (sp_law_draw K) [] E0 (tCons (tVar 0) (tCons (tCB (rLenV K) (tCons (tVar 1) tNil)) tNil)))) (gName 3))
  (tSeq (tPar 4 5 (tCons (tCall (sp_law_draw K) [] E0 (tCons (tVar 0) (tCons (tCB (rLenV K) (tCons (tVar 3) tNil)) tNil))) (tCons (tCall (sp_law_draw K) [] E0 (tCons (tVar 0) (tCons (tC (.int 8)) tNil))) tNil)))
  (tSeq (tIfS (tTest (tOp rLtI (tVar 5) (tC (.int 2)))) (tRet (tOp (rIxL K) (tLst (tCons (tSl (rSlA K) (tVar 3) tNoPart (tPart (tUn rNegI (tC (.int 1))))) (tCons (tOp (rCatA K) (tVar 3) (tTup (tCons (tC (.int 0)) tNil))) tNil))) (tVar 5))) tNext)
  (tSeq (tAsg (tOp (rIxL K) (tLst (tCons (tC (.bl true)) (tCons (tC .non) (tCons (tC (.str "a")) (tCons (tC (.str "")) (tCons (tC (.int 5)) (tCons (tOp (rIxT K) (tVar 2) (tUn rNegI (tC (.int 1)))) tNil))))))) (tOp rSubI (tVar 5) (tC (.int 2)))) (gName 6))
  (tRet (tOp (rCatA K) (tOp (rCatA K) (tSl (rSlA K) (tVar 3) tNoPart (tPart (tVar 4))) (tTup (tCons (tVar 6) tNil))) (tSl (rSlA K) (tVar 3) (tPart (tOp rAddI (tVar 4) (tC (.int 1)))) tNoPart))))))))
section
variable {K : PySem.W.Frag} {vs : List V} {H H' : Hp} {Q : VK} {E : XK} {a q r : Addr} {m : List Addr} {v : V} {xs : List V}
theorem ElA.sc {x : V} (h : ElA K x) : Scal x (scD x) := by
  rcases h with ⟨w, rfl, _, h⟩ | ⟨i, rfl⟩
  · exact sc_S h
  · exact scI
theorem ElA.S {l : List Nat} (h : l.length ≤ 10000) (hp : plain l) : ElA K (vS l) := .inl ⟨l, rfl, h, hp⟩
theorem ElA.od {x : V} (h : ElA K x) : OdN K m H x := fun _ _ => h.el
theorem ElA.I {i : Int} : ElA K (.int i) := .inr ⟨i, rfl⟩
theorem s_eq0 {p r0 : Addr} {ls : List (List V)} (hT : TupsAt K H p ls) (hn : ls.length ≤ 50) (hl : ∀ l ∈ ls, 1 ≤ l.length ∧ l.length ≤ 5 ∧ ∀ x ∈ l, ElA K x) (h0 : H r0 = some (.tup [])) (k : Q (.bl (decide (ls = []))) H) : rEqD K (.ref p) (.ref r0) H Q := by
  have d1 : Dd K H 2 (.ref p) _ := dd_tups hT (by omega) fun l h => ⟨by have := (hl l h).2.1; omega, fun x hx => ((hl l h).2.2 x hx).sc⟩
  have d2 : Dd K H 1 (.ref r0) (.tuple []) := .inr (.inl ⟨r0, [], [], rfl, rfl, SqT.of h0, by simp, rfl, fun i x e hx => by cases hx⟩)
  refine ⟨_, _, Dd.dp _ _ _ d1, Dd.dp _ _ _ d2, Dd.shaped (by decide) d1, Dd.shaped (by decide) d2, ?_⟩
  have : PyData.eqv (.tuple (ls.map fun l => .tuple (l.map scD))) (.tuple []) = decide (ls = []) := by
    cases ls with
    | nil => rfl
    | cons x r => rw [decide_eq_false (by simp)]; rfl
  rw [this]
  exact k
theorem atI_lst {l : List (List Nat)} (h : l ≠ []) : ∃ z ∈ l, atI (l.map vS) (-1) = some (vS z) := ⟨l.getLast h, List.getLast_mem h, atI_last (by rw [List.length_map, List.getElem?_map, ← List.getLast?_eq_getElem?, List.getLast?_eq_some_getLast h]; rfl)⟩
theorem pure_law_spoilt_line (h : sp_law_spoilt_line K vs H Q E) : t_law_spoilt_line K (E1 Q) (start ["_law_pool_here", "_law_some", "_law_posts", "_law_line_here", "_law_at", "_law_mark", "_law_odd_here"] vs) H := by
  obtain ⟨a, p, t, rfl, ls, st, m, hT, hn, hl, ht, gst, hp, hf, k⟩ := h
  show t_law_spoilt_line K (E1 Q) [some (.ref a), some (.ref p), some (.ref t), none, none, none, none] H
  unfold t_law_spoilt_line
  have odd : ∀ {σ : L2.St} {G : Hp} {D : Ends}, Ex [a] H G → PoolAt G a → D.rt = Q → tRet (tCall (sp_law_oddM K) [] E0 (tCons (tVar 0) tNil)) D (some (.ref a) :: σ) G := fun {σ G D} e pG hD => by
    obtain ⟨n, rt, b, c⟩ := D
    cases hD
    refine s_ret (s_call (s_cons (s_var (v := .ref a) rfl (s_nil (u_oddM pG ((hf.exP hp e).there pG) fun v H' e' p' o => ?_)))))
    obtain ⟨d, hd⟩ := o.th (K := K)
    exact k v d H' (e.trans e') p' hd
  refine s_seq (s_ifS (s_or (s_test (s_op (s_var (v := .ref p) rfl (s_tup (s_nil (s_alloc (by show 0 ≤ sizeLine; decide) fun r0 H1 n1 e1 h1 => ?_))))))))
  refine s_eq0 (hT.ex0 e1) hn hl h1 (s_blQ ?_)
  have p1 := hp.ex e1 (by simp)
  by_cases c0 : ls = []
  · exact s_Td c0 (s_T rfl (odd e1.wide p1 rfl))
  refine s_Fd c0 (s_test (s_op (s_call (s_cons (s_var (v := .ref a) rfl (s_cons (s_c (s_nil ?_))))))))
  refine u_draw (by decide) (by decide) p1 fun w H2 w0 w1 e2 p2 => s_c (s_eqI (s_blQ ?_))
  have e02 := e1.wide.trans e2
  by_cases c1 : w = 0
  · exact s_Td c1 (odd e02 p2 rfl)
  refine s_Fd c1 (s_next ?_)
  have lpos : 0 < ls.length := List.length_pos_iff.mpr c0
  obtain ⟨xs, hx, hxl, hxe⟩ := hT.exP hp e02
  have ht2 := sqT_pool hp e02 ht
  refine s_seq (s_asg (s_op (s_var (v := .ref p) rfl (s_call (s_cons (s_var (v := .ref a) rfl (s_cons (s_cb (s_cons (s_var (v := .ref p) rfl (s_nil (s_lenT hx (s_nil ?_)))))))))))))
  refine u_draw (by omega) (by omega) p2 fun n H3 n0 n1 e3 p3 => ?_
  obtain ⟨x, hx1⟩ : ∃ x, xs[n.toNat]? = some x := ⟨_, List.getElem?_eq_getElem (by omega)⟩
  obtain ⟨l, hl1⟩ : ∃ l, ls[n.toNat]? = some l := ⟨_, List.getElem?_eq_getElem (by omega)⟩
  obtain ⟨y, rfl, hy⟩ := hxe _ x l hx1 hl1
  refine s_ixT (v := .ref y) (sqT_pool p2 e3 hx) (atI_of n0 hx1) (s_gName ?_)
  obtain ⟨l1, l5, lA⟩ := hl l (List.mem_of_getElem? hl1)
  have hy := sqT_pool p2 e3 hy
  have ht3 := sqT_pool p2 e3 ht2
  have e03 := e02.trans e3
  clear hx hxl hxe hx1 hl1 hT hl ht ht2 e1 e2 e3 p1 p2 odd
  show tSeq _ _ _ [some (.ref a), some (.ref p), some (.ref t), some (.ref y), none, none, none] _
  refine s_seq (s_par (s_cons (s_call (s_cons (s_var (v := .ref a) rfl (s_cons (s_cb (s_cons (s_var (v := .ref y) rfl (s_nil (s_lenT hy (s_nil ?_))))))))))))
  refine u_draw (by omega) (by omega) p3 fun j H4 j0 j1 e4 p4 => ?_
  refine s_cons (s_call (s_cons (s_var (v := .ref a) rfl (s_cons (s_c (s_nil ?_))))))
  refine u_draw (by decide) (by decide) p4 fun g H5 gz gy e5 p5 => s_nil ⟨_, _, rfl, ?_⟩
  have e35 := e4.trans e5
  have hy := sqT_pool p3 e35 hy
  have ht := sqT_pool p3 e35 ht3
  have e05 := e03.trans e35
  have hf5 := hf.exP hp e05
  clear ht3 e03 e35 e4 e5 p3 p4
  show tSeq _ _ _ [some (.ref a), some (.ref p), some (.ref t), some (.ref y), some (.int j), some (.int g), none] _
  have fin : ∀ {z : Addr} {ys : List V} {G : Hp}, Ex [] H5 G → SqT K G z ys → ys.length ≤ 10 → (∀ z ∈ ys, ElA K z ∨ z = .non ∨ ∃ b, z = .bl b) → Q (.ref z) G := fun e h1 h2 h3 => by
    refine k _ _ _ (e05.trans e.wide) (p5.ex e (by simp)) (th_tup (p5.ex e (by simp)) (hf5.ex0 e) h1 h2 fun x hx => ?_)
    rcases h3 x hx with h | rfl | ⟨b, rfl⟩
    · exact h.od
    · exact fun _ _ => .oth .non
    · exact fun _ _ => .oth (.bl b)
  refine s_seq (s_ifS (s_test (s_op (s_var (v := .int g) rfl (s_c (s_ltI (s_blQ ?_)))))))
  by_cases c2 : g < 2
  · refine s_Td c2 (s_ret (s_op (s_lst (s_cons (s_sl (s_var (v := .ref y) rfl (s_noPart (s_part (s_un (s_c (s_negI (s_int1 (s_slA hy fun y1 G1 f1 g1 => ?_)))))))))))))
    rw [cutV_but] at g1
    refine s_cons (s_op (s_var (v := .ref y) rfl (s_tup (s_cons (s_c (s_nil (s_alloc (by show 1 ≤ sizeLine; decide) fun y2 G2 _ f2 g2 => ?_)))))))
    refine s_catB (sq0 f2 (sq0 f1 hy)) (SqT.of g2) (by simp only [List.length_cons, List.length_nil]; omega) fun y3 G3 f3 g3 => ?_
    refine s_nil (s_alloc (by show 2 ≤ sizeLine; decide) fun y4 G4 _ f4 g4 => ?_)
    refine s_var (v := .int g) rfl ?_
    have f14 := (f2.trans f3).trans f4
    have f04 := f1.trans f14
    have : g = 0 ∨ g = 1 := by omega
    rcases this with rfl | rfl
    · refine s_ixL (v := .ref y1) (SqL.of g4) rfl (fin f04 (sq0 f14 g1) (by rw [List.length_dropLast]; omega) fun z hz => .inl (lA z ((List.dropLast_subset _) hz)))
    · refine s_ixL (v := .ref y3) (SqL.of g4) rfl (fin f04 (sq0 f4 g3) (by simp only [List.length_append, List.length_cons, List.length_nil]; omega) fun z hz => .inl ?_)
      rcases List.mem_append.mp hz with hz | hz
      · exact lA z hz
      · rw [List.mem_singleton.mp hz]; exact .I
  refine s_Fd c2 (s_next (s_seq (s_asg (s_op (s_lst (s_cons (s_c (s_cons (s_c (s_cons (s_cS (l := [97]) (by decide +kernel) (s_cons (s_cS (l := []) (by decide +kernel) (s_cons (s_c (s_cons (s_op (s_var (v := .ref t) rfl (s_un (s_c (s_negI ?_)))))))))))))))))))))
  obtain ⟨b, hb, hb1⟩ := atI_lst (l := st) (fun z => by have := gst.1; rw [z] at this; cases this)
  refine s_ixT (v := vS b) ht hb1 (s_nil (s_alloc (by show 6 ≤ sizeLine; decide) fun y1 G1 _ f1 g1 => ?_))
  refine s_op (s_var (v := .int g) rfl (s_c (s_subI ?_)))
  obtain ⟨u, hu, hu1⟩ : ∃ u, ([.bl true, .non, vS [97], vS [], .int 5, vS b] : List V)[(g - 2).toNat]? = some u ∧ (ElA K u ∨ u = .non ∨ ∃ b, u = .bl b) := by
    have : g = 2 ∨ g = 3 ∨ g = 4 ∨ g = 5 ∨ g = 6 ∨ g = 7 := by omega
    have nb := gst.2.2.2 b hb
    rcases this with rfl | rfl | rfl | rfl | rfl | rfl
    · exact ⟨_, rfl, .inr (.inr ⟨_, rfl⟩)⟩
    · exact ⟨_, rfl, .inr (.inl rfl)⟩
    · exact ⟨_, rfl, .inl (.S (by decide) plain_a)⟩
    · exact ⟨_, rfl, .inl (.S (by decide) fun c hc => by cases hc)⟩
    · exact ⟨_, rfl, .inl .I⟩
    · exact ⟨_, rfl, .inl (.S (by have := nb.2.1; omega) (name_plain nb))⟩
  refine s_ixL (v := u) (SqL.of g1) (atI_of (by omega) hu) (s_gName ?_)
  have hy := sq0 f1 hy
  show tRet _ _ [some (.ref a), some (.ref p), some (.ref t), some (.ref y), some (.int j), some (.int g), some u] _
  refine s_ret (s_op (s_op (s_sl (s_var (v := .ref y) rfl (s_noPart (s_part (s_var (v := .int j) rfl (s_int1 (s_slA hy fun y3 G3 f3 g3 => ?_)))))))))
  rw [cutV_to j0] at g3
  refine s_tup (s_cons (s_var (v := u) rfl (s_nil (s_alloc (by show 1 ≤ sizeLine; decide) fun y4 G4 _ f4 g4 => ?_))))
  refine s_catB (sq0 f4 g3) (SqT.of g4) (by simp only [List.length_take, List.length_cons, List.length_nil]; omega) fun y5 G5 f5 g5 => ?_
  have f35 := (f3.trans f4).trans f5
  refine s_sl (s_var (v := .ref y) rfl (s_part (s_op (s_var (v := .int j) rfl (s_c (s_addI (s_int1 (s_noPart (s_slA (sq0 f35 hy) fun y6 G6 f6 g6 => ?_)))))))))
  rw [cutV_from (by omega)] at g6
  refine s_catB (sq0 f6 g5) g6 (by simp only [List.length_append, List.length_take, List.length_drop, List.length_cons, List.length_nil]; omega) fun y7 G7 f7 g7 => ?_
  refine fin (f1.trans ((f35.trans f6).trans f7)) g7 (by simp only [List.length_append, List.length_take, List.length_drop, List.length_cons, List.length_nil]; omega) fun z hz => ?_
  rcases mem_sl hz with rfl | hz
  · exact hu1
  · exact .inl (lA z hz)
end
end WB
namespace WB
open PySem PySem.Spec PyProof.Rows L2 LamX
theorem l14f_65_48_32_122 : ("A0 z" : Str) = S [65, 48, 32, 122] := by decide +kernel
theorem l14f_65_98 : ("Ab" : Str) = S [65, 98] := by decide +kernel
theorem l14f_57_97 : ("9a" : Str) = S [57, 97] := by decide +kernel
theorem l14f_97_32_98 : ("a b" : Str) = S [97, 32, 98] := by decide +kernel
theorem l14f_97_98_99_100_101_102_103_104_105 : ("abcdefghi" : Str) = S [97, 98, 99, 100, 101, 102, 103, 104, 105] := by decide +kernel
theorem l14f_97_98_99_100_101_102_103_104 : ("abcdefgh" : Str) = S [97, 98, 99, 100, 101, 102, 103, 104] := by decide +kernel
def t_law_spoilt (K : PySem.W.Frag) : TS :=
  (tSeq (tAsg (tCB (rListOf K) (tCons (tVar 1) tNil)) (gName 3))
  (tSeq (tAsg (tOp (rIxL K) (tVar 1) (tC (.int 1))) (gName 4))
  (tSeq (tIfS (tTest (tOp rEq (tVar 2) (tC (.int 0)))) (tSeq (tAsg (tOp (rIxL K) (tVar 1) (tC (.int 0))) (gName 5))
  (tSeq (tPar 7 8 (tCons (tCall (sp_law_draw K) [] E0 (tCons (tVar 0) (tCons (tOp rAddI (tCB (rLenV K) (tCons (tVar 5) tNil)) (tC (.int 1))) tNil))) (tCons (tOp rIxS (tOp rAddS (tVar 5) (tC (.str "A0 z"))) (tCall (sp_law_draw K) [] E0 (tCons (tVar 0) (tCons (tOp rAddI (tCB (rLenV K) (tCons (tVar 5) tNil)) (tC (.int 4))) tNil)))) tNil)))
  (tSeq (tAsg (tLst (tCons (tOp rAddS (tOp rAddS (tSl rSlS (tVar 5) tNoPart (tPart (tVar 7))) (tVar 8)) (tSl rSlS (tVar 5) (tPart (tVar 7)) tNoPart)) (tCons (tOp rAddS (tSl rSlS (tVar 5) tNoPart (tPart (tVar 7))) (tSl rSlS (tVar 5) (tPart (tOp rAddI (tVar 7) (tC (.int 1)))) tNoPart)) (tCons (tOp rAddS (tSl rSlS (tVar 5) (tPart (tC (.int 1))) tNoPart) (tVar 8)) (tCons (tCB rTupS (tCons (tVar 5) tNil)) (tCons (tCall (sp_law_oddM K) [] E0 (tCons (tVar 0) tNil)) tNil)))))) (gName 6))
  (tAsg (tOp (rIxL K) (tVar 6) (tCall (sp_law_draw K) [] E0 (tCons (tVar 0) (tCons (tC (.int 5)) tNil)))) (gSub (tVar 3) (tC (.int 0)) rSetL))))) tNext)
  (tSeq (tIfS (tTest (tOp rEq (tVar 2) (tC (.int 1)))) (tSeq (tAsg (tOp (rCatA K) (tVar 4) (tCB (rTupOf K) (tCons (tCall (sp_law_namesA K) [] E0 (tCons (tVar 0) (tCons (tC (.int 7)) tNil))) tNil))) (gName 9))
  (tSeq (tAsg (tOp (rIxL K) (tLst (tCons (tCall (sp_law_oddM K) [] E0 (tCons (tVar 0) tNil)) (tCons (tOp (rIxT K) (tVar 4) (tC (.int 0))) (tCons (tC (.str "Ab")) (tCons (tC (.str "9a")) (tCons (tC (.str "a b")) (tCons (tC (.str "abcdefghi")) (tCons (tC (.str "abcdefgh")) tNil)))))))) (tCall (sp_law_draw K) [] E0 (tCons (tVar 0) (tCons (tC (.int 7)) tNil)))) (gName 10))
  (tAsg (tIf (tTest (tOp rEq (tCall (sp_law_draw K) [] E0 (tCons (tVar 0) (tCons (tC (.int 4)) tNil))) (tC (.int 0)))) (tSl (rSlA K) (tVar 9) tNoPart (tPart (tOp rAddI (tC (.int 6)) (tCall (sp_law_draw K) [] E0 (tCons (tVar 0) (tCons (tC (.int 2)) tNil)))))) (tCall (sp_law_bent K) [] E0 (tCons (tVar 0) (tCons (tVar 4) (tCons (tVar 10) tNil))))) (gSub (tVar 3) (tC (.int 1)) rSetL)))) tNext)
  (tSeq (tIfS (tTest (tOp (rIn K false) (tVar 2) (tLst (tCons (tC (.int 2)) (tCons (tC (.int 3)) tNil))))) (tAsg (tCall (sp_law_bent K) [] E0 (tCons (tVar 0) (tCons (tOp (rIxL K) (tVar 1) (tVar 2)) (tCons (tCall (sp_law_spoilt_line K) [] E0 (tCons (tVar 0) (tCons (tOp (rIxL K) (tVar 1) (tVar 2)) (tCons (tVar 4) tNil)))) tNil)))) (gSub (tVar 3) (tVar 2) rSetL)) tNext)
  (tSeq (tIfS (tTest (tOp rEq (tVar 2) (tC (.int 4)))) (tSeq (tAsg (tOp (rIxL K) (tLst (tCons (tCall (sp_law_oddM K) [] E0 (tCons (tVar 0) tNil)) (tCons (tOp (rIxT K) (tVar 4) (tC (.int 0))) (tCons (tOp (rIxT K) (tVar 4) (tUn rNegI (tC (.int 1)))) tNil)))) (tCall (sp_law_draw K) [] E0 (tCons (tVar 0) (tCons (tC (.int 3)) tNil)))) (gName 10))
  (tAsg (tCall (sp_law_bent K) [] E0 (tCons (tVar 0) (tCons (tOp (rIxL K) (tVar 1) (tC (.int 4))) (tCons (tVar 10) tNil)))) (gSub (tVar 3) (tC (.int 4)) rSetL))) tNext)
  (tRet (tVar 3))))))))
section
variable {K : PySem.W.Frag} {vs : List V} {H H' : Hp} {Q : VK} {E : XK} {a q r : Addr} {m : List Addr} {v : V} {xs : List V}
theorem sg_el (h : ElK K H v) (p : plV v) : SgK K H v := by
  cases h with
  | str l h => exact .str l h (p l rfl)
  | oth h => exact .oth h
theorem OddAt.p0 (h : OddAt m H v) : PtI K m H 0 v := by
  obtain ⟨d, D⟩ := h.val (K := K)
  exact ⟨d, fun H' e => sg_el (oth_odd (h.exN e)).1 h.pl, D.dx⟩
theorem txt_p0 {l : List Nat} (h : l.length ≤ 10000) (p : plain l) : PtI K m H 0 (vS l) := ⟨_, fun _ _ => .str l h p, fun _ _ => dx_scal (scS p)⟩
theorem th_ela {t : Addr} (hp : PoolAt H a) (hf : Far a m H) (h : SqT K H t xs) (hl : xs.length ≤ 10) (he : ∀ x ∈ xs, ElA K x) : ThN K m H (.ref t) (some xs) := th_tup hp hf h hl fun x hx => (he x hx).od
theorem plD_ela (he : ∀ x ∈ xs, ElA K x) : plD (some xs) := fun ys e x hx => by cases e; exact (he x hx).pl
theorem ch_ds {P : V → Option (List V) → Prop} : ∀ {ys : List V}, (∀ y ∈ ys, ∃ d, P y d) → ∃ ds : List (Option (List V)), ds.length = ys.length ∧ ∀ (i : Nat) x d, ys[i]? = some x → ds[i]? = some d → P x d
  | [], _ => ⟨[], rfl, fun i x d h => by cases h⟩
  | y :: ys, h => by
    obtain ⟨d, hd⟩ := h y List.mem_cons_self
    obtain ⟨ds, h1, h2⟩ := ch_ds (ys := ys) fun z hz => h z (List.mem_cons_of_mem _ hz)
    refine ⟨d :: ds, by simp [h1], fun i x e hx he => ?_⟩
    cases i with
    | zero => cases hx; cases he; exact hd
    | succ i => exact h2 i x e hx he
theorem rw_tup {t : Addr} (hp : PoolAt H a) (hf : Far a m H) (h : SqT K H t xs) (hl : xs.length ≤ 100) (he : ∀ x ∈ xs, ∃ d, ThN K m H x d) : ∃ d, RwN K m H (.ref t) d := by
  obtain ⟨ds, h1, h2⟩ := ch_ds he
  exact ⟨some ds, fun H' e => .tup (sqT_far hp hf e h) h1 hl fun i x d z1 z2 => h2 i x d z1 z2 H' e⟩
theorem th_lst {xs : List V} (h : H r = some (.lst xs)) (n : r ∉ m) : ThN K m H (.ref r) none := fun H' e => .lst (e _ _ n h fun _ z => by cases z)
theorem tups_el {ls : List (List V)} {x : V} (h : Tups K H xs ls) (hx : x ∈ xs) : ∃ p l, x = .ref p ∧ l ∈ ls ∧ SqT K H p l := by
  obtain ⟨i, hi⟩ := List.mem_iff_getElem?.mp hx
  obtain ⟨hi', _⟩ := List.getElem?_eq_some_iff.mp hi
  obtain ⟨l, hz⟩ : ∃ l, ls[i]? = some l := ⟨_, List.getElem?_eq_getElem (by rw [← h.1]; exact hi')⟩
  obtain ⟨p, e, hp⟩ := h.2 i x _ hi hz
  exact ⟨p, _, e, List.mem_of_getElem? hz, hp⟩
theorem bent_th {H0 : Hp} (hp : PoolAt H a) (hf : Far a m H) (hm : ∀ b ∈ m, H0 b ≠ none) (h : BentAt K H0 H r xs v) (hl : xs.length ≤ 6) (he : ∀ x ∈ xs, ElA K x) (hv : OdN K m H v) (pv : plV v) : ∃ d, ThN K m H (.ref r) d ∧ plD d := by
  rcases h with ⟨ys, h1, h2, h3⟩ | ⟨h1, h2⟩
  · refine ⟨some ys, th_tup hp hf h1 (by omega) fun x hx => ?_, fun zs e x hx => ?_⟩
    · rcases h3 x hx with rfl | hx
      · exact hv
      · exact (he x hx).od
    · cases e
      rcases h3 x hx with rfl | hx
      · exact pv
      · exact (he x hx).pl
  · exact ⟨none, th_lst h2 fun z => hm _ z h1, fun xs e => by cases e⟩
theorem bent_rw {H0 : Hp} (hp : PoolAt H a) (hf : Far a m H) (hm : ∀ b ∈ m, H0 b ≠ none) (h : BentAt K H0 H r xs v) (hl : xs.length ≤ 50) (he : ∀ x ∈ xs, ∃ d, ThN K m H x d) (hv : ∃ d, ThN K m H v d) : ∃ d, RwN K m H (.ref r) d := by
  rcases h with ⟨ys, h1, h2, h3⟩ | ⟨h1, h2⟩
  · refine rw_tup hp hf h1 (by omega) fun x hx => ?_
    rcases h3 x hx with rfl | hx
    · exact hv
    · exact he x hx
  · exact ⟨none, fun H' e => .oth (th_lst h2 (fun z => hm _ z h1) H' e)⟩
theorem ela_names {ls : List (List Nat)} (h : ∀ l ∈ ls, isName l) : ∀ x ∈ ls.map vS, ElA K x := fun x hx => by
  obtain ⟨l, hl, rfl⟩ := List.mem_map.mp hx
  exact .S (by have := (h l hl).2.1; omega) (name_plain (h l hl))
theorem ela_rw {s : List Nat} {st : List (List Nat)} {rs : List Rw} (hs : goodS s) (hst : goodSt st) (h : goodRws s st rs) : ∀ l ∈ rs.map rwV, 1 ≤ l.length ∧ l.length ≤ 5 ∧ ∀ x ∈ l, ElA K x := fun l hl => by
  obtain ⟨r, hr, rfl⟩ := List.mem_map.mp hl
  obtain ⟨h1, h2, h3⟩ := h.1 r hr
  have n : ∀ b ∈ st, ElA K (vS b) := fun b hb => .S (by have := (hst.2.2.2 b hb).2.1; omega) (name_plain (hst.2.2.2 b hb))
  refine ⟨by show 1 ≤ 4; decide, by show 4 ≤ 5; decide, fun x hx => ?_⟩
  simp only [rwV, List.mem_cons, List.not_mem_nil, or_false] at hx
  rcases hx with rfl | rfl | rfl | rfl
  · exact n _ h1
  · exact .S (by simp) (plain_in hs h2)
  · exact n _ h3
  · exact .I
theorem ela_tn {st : List (List Nat)} {ts : List Tn} (hst : goodSt st) (h : goodTns st ts) : ∀ l ∈ ts.map tnV, 1 ≤ l.length ∧ l.length ≤ 5 ∧ ∀ x ∈ l, ElA K x := fun l hl => by
  obtain ⟨r, hr, rfl⟩ := List.mem_map.mp hl
  obtain ⟨h1, h3⟩ := h.1 r hr
  have n : ∀ b ∈ st, ElA K (vS b) := fun b hb => .S (by have := (hst.2.2.2 b hb).2.1; omega) (name_plain (hst.2.2.2 b hb))
  refine ⟨by show 1 ≤ 3; decide, by show 3 ≤ 5; decide, fun x hx => ?_⟩
  simp only [tnV, List.mem_cons, List.not_mem_nil, or_false] at hx
  rcases hx with rfl | rfl | rfl
  · exact n _ h1
  · exact n _ h3
  · exact .I
theorem nodup_len {α β : Type} [DecidableEq β] {f : α → β} {l : List α} {st : List β} (h : (l.map f).Nodup) (hs : ∀ x ∈ l, f x ∈ st) : l.length ≤ st.length := by
  have := nodup_le _ st h fun y hy => by
    obtain ⟨x, hx, rfl⟩ := List.mem_map.mp hy
    exact hs x hx
  rwa [List.length_map] at this
theorem ixN_14 {xs : List V} {v : Nat} (h : v < xs.length) : ixN xs.length ((v : Nat) : Int) = some v := by
  unfold ixN
  rw [if_pos (Int.natCast_nonneg _), if_pos (by omega), Int.toNat_natCast]
theorem ptN_parts {M : LM} {s : List Nat} {rs : List Rw} {ts : List Tn} {ys : List (List Nat)} {o r t y : Addr} (hp : PoolAt H a) (hf : Far a m H) (T : Told M s rs ts ys) (mg : GM M) (ho : SqT K H o (M.st.map vS)) (hr : TupsAt K H r (rs.map rwV)) (ht : TupsAt K H t (ts.map tnV)) (hy : SqT K H y (ys.map vS)) : PtN K m H [vS s, .ref o, .ref r, .ref t, .ref y] := by
  have gs := T.gs mg
  have gst := mg.g.st
  have t6 := gst.2.1
  have s4 := gs.2.1
  have gr := T.rows mg
  have gt := T.tns mg
  have gy := T.yes mg
  have lr : rs.length ≤ 24 := by rw [gr.2.2]; exact Nat.le_trans (Nat.mul_le_mul s4 t6) (by decide)
  have lt : ts.length ≤ 6 := Nat.le_trans (nodup_len gt.2 fun x hx => (gt.1 x hx).1) t6
  have ly : ys.length ≤ 6 := Nat.le_trans (nodup_len (f := id) (by rw [List.map_id]; exact gy.2) fun x hx => gy.1 x hx) t6
  have tt : ∀ {z : Addr} {ls : List (List V)}, TupsAt K H z ls → ls.length ≤ 50 → (∀ l ∈ ls, 1 ≤ l.length ∧ l.length ≤ 5 ∧ ∀ x ∈ l, ElA K x) → ∃ d, RwN K m H (.ref z) d := fun {z ls} h hl he => by
    obtain ⟨xs, h1, h2⟩ := h
    refine rw_tup hp hf h1 (by have := h2.1; omega) fun x hx => ?_
    obtain ⟨p, l, rfl, hl, hp'⟩ := tups_el h2 hx
    exact ⟨_, th_ela hp hf hp' (by have := (he l hl).2.1; omega) (he l hl).2.2⟩
  refine ⟨rfl, fun k v hv => ?_⟩
  match k, hv with
  | 0, hv => cases hv; exact txt_p0 (by omega) (plain_ab gs)
  | 1, hv => cases hv; exact ⟨_, th_ela hp hf ho (by rw [List.length_map]; omega) (ela_names gst.2.2.2), plD_ela (ela_names (K := K) gst.2.2.2)⟩
  | 2, hv => cases hv; exact tt hr (by rw [List.length_map]; omega) (ela_rw gs gst gr)
  | 3, hv => cases hv; exact tt ht (by rw [List.length_map]; omega) (ela_tn gst gt)
  | 4, hv => cases hv; exact ⟨_, th_ela hp hf hy (by rw [List.length_map]; omega) (ela_names fun l hl => gst.2.2.2 l (gy.1 l hl))⟩
theorem pure_law_spoilt (h : sp_law_spoilt K vs H Q E) : t_law_spoilt K (E1 Q) (start ["_law_pool_here", "_law_parts_here", "_law_which", "_law_found", "_law_posts", "_law_abc", "_law_words", "_law_at", "_law_mark", "_law_more", "_law_odd_here"] vs) H := by
  obtain ⟨a, p, w, rfl, M, s, rs, ts, ys, m, hP, T, mg, w0, w4, hp, hf, hma, k⟩ := h
  show t_law_spoilt K (E1 Q) [some (.ref a), some (.ref p), some (.int w), none, none, none, none, none, none, none, none] H
  unfold t_law_spoilt
  obtain ⟨o, r, t, y, hpp, ho, hr, ht, hy⟩ := hP
  have hpa : p ∉ [a] := fun z => by
    obtain ⟨i, j, l, hp⟩ := hp
    rw [List.mem_singleton.mp z, hp] at hpp
    cases hpp
  refine s_seq (s_asg (s_cb (s_cons (s_var (v := .ref p) rfl (s_nil (s_listOfL (SqL.of hpp) fun q H1 nq e1 hq => s_gName ?_))))))
  have p1 := hp.ex e1 (by simp)
  have hpp1 := e1.get0 hpp
  refine s_seq (s_asg (s_op (s_var (v := .ref p) rfl (s_c (s_ixL (v := .ref o) (SqL.of hpp1) rfl (s_gName ?_))))))
  have hqa : q ∉ [a] := fun z => hp.there (by rw [← List.mem_singleton.mp z]; exact nq)
  have haq : a ∉ [q] := fun z => hqa (by rw [List.mem_singleton.mp z]; simp)
  have gs := T.gs mg
  have gst := mg.g.st
  have t1 := gst.1
  have t6 := gst.2.1
  have s4 := gs.2.1
  have gr := T.rows mg
  have gt := T.tns mg
  have gy := T.yes mg
  have ho1 := sq0 e1 ho
  have hr1 := hr.ex0 e1
  have ht1 := ht.ex0 e1
  have hy1 := sq0 e1 hy
  have F1 : Far a (q :: m) H1 := fun b hb => by
    rcases List.mem_cons.mp hb with rfl | hb
    · exact .inr ⟨_, hq⟩
    · exact (hf.ex0 e1) b hb
  have N1 := ptN_parts p1 F1 T mg ho1 hr1 ht1 hy1
  have w1 : Ex [a] H H1 := e1.wide
  clear ho hr ht hy e1 hpp
  have toN : ∀ {G G' : Hp}, Ex [a] G G' → ExN (q :: m) G G' := fun e => (ExN.of e).less (by simp [hma])
  have fin : ∀ {G : Hp} {xs : List V} {x5 x6 x7 x8 x9 x10 : Option V}, Ex [a] H G → PoolAt G a → G q = some (.lst xs) → PtN K (q :: m) G xs → tRet (tVar 3) (E1 Q) [some (.ref a), some (.ref p), some (.int w), some (.ref q), some (.ref o), x5, x6, x7, x8, x9, x10] G := fun e pG hq N => s_ret (s_var (v := .ref q) rfl (k q _ _ nq e pG hq (N.less fun b hb => List.mem_cons_of_mem _ hb)))
  have n4 : ∀ {B : TS} {G : Hp} {xs : List V} {x5 x6 x7 x8 x9 x10 : Option V}, w ≠ 4 → Ex [a] H G → PoolAt G a → G q = some (.lst xs) → PtN K (q :: m) G xs → (tSeq (tIfS (tTest (tOp rEq (tVar 2) (tC (.int 4)))) B tNext) (tRet (tVar 3))) (E1 Q) [some (.ref a), some (.ref p), some (.int w), some (.ref q), some (.ref o), x5, x6, x7, x8, x9, x10] G := fun h e pG hq N => s_seq (s_ifS (s_test (s_op (s_var (v := .int w) rfl (s_c (s_eqI (s_blQ (s_Fd h (s_next (fin e pG hq N))))))))))
  have n23 : ∀ {B C : TS} {G : Hp} {xs : List V} {x5 x6 x7 x8 x9 x10 : Option V}, w ≠ 2 → w ≠ 3 → (∀ G', Ex [a] H G' → PoolAt G' a → G' q = some (.lst xs) → PtN K (q :: m) G' xs → C (E1 Q) [some (.ref a), some (.ref p), some (.int w), some (.ref q), some (.ref o), x5, x6, x7, x8, x9, x10] G') → Ex [a] H G → PoolAt G a → G q = some (.lst xs) → PtN K (q :: m) G xs → (tSeq (tIfS (tTest (tOp (rIn K false) (tVar 2) (tLst (tCons (tC (.int 2)) (tCons (tC (.int 3)) tNil))))) B tNext) C) (E1 Q) [some (.ref a), some (.ref p), some (.int w), some (.ref q), some (.ref o), x5, x6, x7, x8, x9, x10] G := fun {B C G xs x5 x6 x7 x8 x9 x10} h2 h3 kk e pG hq N => by
    refine s_seq (s_ifS (s_test (s_op (s_var (v := .int w) rfl (s_lst (s_cons (s_c (s_cons (s_c (s_nil (s_alloc (by show 2 ≤ sizeLine; decide) fun z G2 _ e2 hz => ?_)))))))))))
    refine s_inI (ls := [2, 3]) (SqL.of hz) (s_blQ (s_Fd (by simp [h2, h3]) (s_next ?_)))
    exact kk _ (e.trans e2.wide) (pG.ex e2 (by simp)) (e2.get0 hq) (N.ex (ExN.of0 e2))
  have put : ∀ {G : Hp} {j : Nat} {i : Int} {v : V} {xs : List V} {R : Hp → Prop}, i = (j : Nat) → j < 5 → Ex [a] H G → PoolAt G a → G q = some (.lst xs) → PtN K (q :: m) G xs → PtI K (q :: m) G j v → (∀ G', Ex [a] H G' → PoolAt G' a → G' q = some (.lst (xs.set j v)) → PtN K (q :: m) G' (xs.set j v) → R G') → rSetL (.ref q) (.int i) v G R := fun {G j i v xs R} hi hj e pG hq N hv kk => by
    subst hi
    refine s_setL hq (ixN_14 (by rw [N.l]; exact hj)) fun G2 e2 h2 => ?_
    exact kk G2 (Ex.dropN nq e e2) (pG.ex e2 haq) h2 ((N.set hv).ex ((ExN.of e2).less (by simp)))
  have far : ∀ {G : Hp}, Ex [a] H1 G → Far a (q :: m) G := fun e => F1.exP p1 e
  have em : ∀ {G : Hp}, Ex [a] H1 G → PoolAt G a → ∀ b ∈ (q :: m), G b ≠ none := fun {G} e pG => (F1.exP p1 e).there pG
  have elO : ∀ x ∈ M.st.map vS, ElA K x := ela_names gst.2.2.2
  have odd : ∀ {σ : L2.St} {G : Hp} {R : VK}, Ex [a] H1 G → PoolAt G a → (∀ v G', Ex [a] G G' → PoolAt G' a → OddAt (q :: m) G' v → R v G') → tCall (sp_law_oddM K) [] E0 (tCons (tVar 0) tNil) (some (.ref a) :: σ) G R := fun {σ G R} e pG kk => s_call (s_cons (s_var (v := .ref a) rfl (s_nil (u_oddM pG (em e pG) fun v G' e' p' o' => kk v G' e' p' o'))))
  have hst : M.st ≠ [] := fun z => by rw [z] at t1; cases t1
  have : w = 0 ∨ w = 1 ∨ (w = 2 ∨ w = 3) ∨ w = 4 := by omega
  rcases this with rfl | rfl | h23 | rfl
  · -- the signs
    refine s_seq (s_ifS (s_test (s_op (s_var (v := .int 0) rfl (s_c (s_eqI (s_blQ (s_Td rfl ?_))))))))
    refine s_seq (s_asg (s_op (s_var (v := .ref p) rfl (s_c (s_ixL (v := vS s) (SqL.of hpp1) rfl (s_gName ?_))))))
    show tSeq _ _ _ [some (.ref a), some (.ref p), some (.int 0), some (.ref q), some (.ref o), some (vS s), none, none, none, none, none] _
    have zl : s.length ≤ sizeLine := Nat.le_trans s4 (by decide)
    refine s_seq (s_par (s_cons (s_call (s_cons (s_var (v := .ref a) rfl (s_cons (s_op (s_cb (s_cons (s_var (v := vS s) rfl (s_nil (s_lenS zl (s_c (s_addI (s_nil ?_)))))))))))))))
    refine u_draw (by omega) (by omega) p1 fun j H2 j0 j1 e2 p2 => ?_
    refine s_cons (s_op (s_op (s_var (v := vS s) rfl (s_cS (l := [65, 48, 32, 122]) (by decide +kernel) (s_addS (by show s.length + 4 ≤ _; exact Nat.le_trans (Nat.add_le_add_right s4 4) (by decide)) ?_)))))
    refine s_call (s_cons (s_var (v := .ref a) rfl (s_cons (s_op (s_cb (s_cons (s_var (v := vS s) rfl (s_nil (s_lenS zl (s_c (s_addI (s_nil ?_))))))))))))
    refine u_draw (by omega) (by omega) p2 fun n H3 n0 n1 e3 p3 => ?_
    obtain ⟨c, hc⟩ : ∃ c, (s ++ [65, 48, 32, 122])[n.toNat]? = some c := ⟨_, List.getElem?_eq_getElem (by rw [List.length_append]; show n.toNat < s.length + 4; omega)⟩
    have pc : plain (s ++ [65, 48, 32, 122]) := plain_app (plain_ab gs) (by intro c hc; revert c; decide)
    have pc1 : plain [c] := fun d hd => by rw [List.mem_singleton.mp hd]; exact pc c (List.mem_of_getElem? hc)
    refine s_ixS (c := c) (by rw [List.length_append]; exact Nat.le_trans (Nat.add_le_add_right s4 4) (by decide)) (atI_of n0 hc) (s_nil ⟨_, _, rfl, ?_⟩)
    show tSeq _ _ _ [some (.ref a), some (.ref p), some (.int 0), some (.ref q), some (.ref o), some (vS s), none, some (.int j), some (vS [c]), none, none] _
    have e13 := e2.trans e3
    have cl := fun lo hi => @cut_le s lo hi
    have pl := fun lo hi => plain_cut (lo := lo) (hi := hi) (plain_ab gs)
    have sz : ∀ {n : Nat}, n ≤ 100 → n ≤ sizeLine := fun h => Nat.le_trans h (by decide)
    have c1 := cl none (some j)
    have c2 := cl (some j) none
    have c3 := cl (some (j + 1)) none
    have c4 := cl (some 1) none
    refine s_seq (s_asg (s_lst (s_cons (s_op (s_op (s_sl (s_var (v := vS s) rfl (s_noPart (s_part (s_var (v := .int j) rfl (s_int1 (s_slS zl (s_var (v := vS [c]) rfl (s_addS (sz (by rw [List.length_singleton]; omega)) ?_))))))))))))))
    refine s_sl (s_var (v := vS s) rfl (s_part (s_var (v := .int j) rfl (s_int1 (s_noPart (s_slS zl (s_addS (sz (by rw [List.length_append, List.length_singleton]; omega)) ?_)))))))
    refine s_cons (s_op (s_sl (s_var (v := vS s) rfl (s_noPart (s_part (s_var (v := .int j) rfl (s_int1 (s_slS zl ?_))))))))
    refine s_sl (s_var (v := vS s) rfl (s_part (s_op (s_var (v := .int j) rfl (s_c (s_addI (s_int1 (s_noPart (s_slS zl (s_addS (sz (by omega)) ?_))))))))))
    refine s_cons (s_op (s_sl (s_var (v := vS s) rfl (s_part (s_c (s_int1 (s_noPart (s_slS zl (s_var (v := vS [c]) rfl (s_addS (sz (by rw [List.length_singleton]; omega)) ?_))))))))))
    refine s_cons (s_cb (s_cons (s_var (v := vS s) rfl (s_nil (s_tupS (by omega) fun z H4 nz e4 hz => ?_)))))
    refine s_cons (odd (e13.trans e4.wide) (p3.ex e4 (by simp)) fun v H5 e5 p5 o5 => s_nil (s_alloc (by show 5 ≤ sizeLine; decide) fun l H6 nl e6 hl => s_gName ?_))
    have p6 := (p5.ex e6 (by simp))
    refine s_asg (s_op (s_var (v := .ref l) rfl (s_call (s_cons (s_var (v := .ref a) rfl (s_cons (s_c (s_nil ?_))))))))
    refine u_draw (by decide) (by decide) p6 fun g H7 g0 g1 e7 p7 => ?_
    have nla : l ∉ [a] := fun z => p5.there (by rw [← List.mem_singleton.mp z]; exact nl)
    have hl7 := e7.get nla hl
    have nza : z ∉ [a] := fun y => p3.there (by rw [← List.mem_singleton.mp y]; exact nz)
    have nzm : z ∉ (q :: m) := fun y => em e13 p3 z y nz
    have e57 : Ex [a] H5 H7 := e6.wide.trans e7
    have e47 : Ex [a] H4 H7 := e5.trans e57
    have e17 : Ex [a] H1 H7 := (e13.trans e4.wide).trans e47
    have hz7 := e47.get nza hz
    obtain ⟨u, hu, hu1⟩ : ∃ u, ([vS (cut s none (some j) ++ [c] ++ cut s (some j) none), vS (cut s none (some j) ++ cut s (some (j + 1)) none), vS (cut s (some 1) none ++ [c]), .ref z, v] : List V)[g.toNat]? = some u ∧ PtI K (q :: m) H7 0 u := by
      have : g = 0 ∨ g = 1 ∨ g = 2 ∨ g = 3 ∨ g = 4 := by omega
      rcases this with rfl | rfl | rfl | rfl | rfl
      · exact ⟨_, rfl, txt_p0 (by simp only [List.length_append, List.length_singleton]; omega) (plain_app (plain_app (pl _ _) pc1) (pl _ _))⟩
      · exact ⟨_, rfl, txt_p0 (by simp only [List.length_append]; omega) (plain_app (pl _ _) (pl _ _))⟩
      · exact ⟨_, rfl, txt_p0 (by simp only [List.length_append, List.length_singleton]; omega) (plain_app (pl _ _) pc1)⟩
      · have D := ValD.signs (K := K) nzm hz7 (by omega) (plain_ab gs)
        exact ⟨_, rfl, _, fun G e => .oth (.tup (SqT.of (e _ _ nzm hz7 fun _ z => by cases z))), D.dx⟩
      · exact ⟨_, rfl, (o5.exN (toN e57)).p0⟩
    refine s_ixL (v := u) (SqL.of hl7) (atI_of g0 hu) (s_gSub (s_var (v := .ref q) rfl (s_c (put (j := 0) rfl (by decide) (w1.trans e17) p7 (e17 _ _ hqa hq) (N1.ex (toN e17)) hu1 fun G eG pG hG NG => ?_))))
    exact s_seq (s_ifS (s_test (s_op (s_var (v := .int 0) rfl (s_c (s_eqI (s_blQ (s_Fd (by decide) (s_next (n23 (by decide) (by decide) (fun G' e p h N => n4 (by decide) e p h N) eG pG hG NG))))))))))
  · -- the states
    refine s_seq (s_ifS (s_test (s_op (s_var (v := .int 1) rfl (s_c (s_eqI (s_blQ (s_Fd (by decide) (s_next ?_)))))))))
    refine s_seq (s_ifS (s_test (s_op (s_var (v := .int 1) rfl (s_c (s_eqI (s_blQ (s_Td rfl ?_))))))))
    refine s_seq (s_asg (s_op (s_var (v := .ref o) rfl (s_cb (s_cons (s_call (s_cons (s_var (v := .ref a) rfl (s_cons (s_c (s_nil ?_)))))))))))
    refine ⟨a, 7, rfl, by decide, by decide, p1, fun st' z H2 hn' hl' nz e2 p2 hz => s_nil (s_tupOf (SqL.of hz) fun z2 H3 _ e3 hz2 => ?_)⟩
    have ho3 := sq0 e3 (sqT_pool p1 e2 ho1)
    refine s_catB ho3 (SqT.of hz2) (by rw [List.length_map, List.length_map]; omega) fun mo H4 e4 hmo => s_gName ?_
    have p4 := (p2.ex e3 (by simp)).ex e4 (by simp)
    have e14 := e2.trans (e3.trans e4).wide
    have ho4 := sq0 e4 ho3
    show tSeq _ _ _ [some (.ref a), some (.ref p), some (.int 1), some (.ref q), some (.ref o), none, none, none, none, some (.ref mo), none] _
    obtain ⟨b, hb⟩ : ∃ b, M.st[0]? = some b := ⟨_, List.getElem?_eq_getElem (by omega)⟩
    have nb := gst.2.2.2 b (List.mem_of_getElem? hb)
    refine s_seq (s_asg (s_op (s_lst (s_cons (odd e14 p4 fun v H5 e5 p5 o5 => ?_)))))
    have ho5 := sqT_pool p4 e5 ho4
    refine s_cons (s_op (s_var (v := .ref o) rfl (s_c (s_ixT (v := vS b) ho5 (atI_of (by decide) (by rw [List.getElem?_map, show (0 : Int).toNat = 0 from rfl, hb]; rfl)) ?_))))
    refine s_cons (s_cS (l := [65, 98]) (by decide +kernel) (s_cons (s_cS (l := [57, 97]) (by decide +kernel) (s_cons (s_cS (l := [97, 32, 98]) (by decide +kernel) (s_cons (s_cS (l := [97, 98, 99, 100, 101, 102, 103, 104, 105]) (by decide +kernel) (s_cons (s_cS (l := [97, 98, 99, 100, 101, 102, 103, 104]) (by decide +kernel) (s_nil (s_alloc (by show 7 ≤ sizeLine; decide) fun l H6 nl e6 hl => ?_)))))))))))
    have p6 := (p5.ex e6 (by simp))
    refine s_call (s_cons (s_var (v := .ref a) rfl (s_cons (s_c (s_nil ?_)))))
    refine u_draw (by decide) (by decide) p6 fun g H7 g0 g1 e7 p7 => ?_
    have nla : l ∉ [a] := fun z => p5.there (by rw [← List.mem_singleton.mp z]; exact nl)
    have hl7 := e7.get nla hl
    have e57 : Ex [a] H5 H7 := e6.wide.trans e7
    have e47 := e5.trans e57
    have e17 := e14.trans e47
    have od := o5.exN (toN e57)
    obtain ⟨u, hu, hu1, hu2⟩ : ∃ u, ([v, vS b, vS [65, 98], vS [57, 97], vS [97, 32, 98], vS [97, 98, 99, 100, 101, 102, 103, 104, 105], vS [97, 98, 99, 100, 101, 102, 103, 104]] : List V)[g.toNat]? = some u ∧ OdN K (q :: m) H7 u ∧ plV u := by
      have tx : ∀ {l : List Nat}, l.length ≤ 10000 → plain l → OdN K (q :: m) H7 (vS l) ∧ plV (vS l) := fun h p => ⟨(ElA.S h p).od, (ElA.S (K := K) h p).pl⟩
      have : g = 0 ∨ g = 1 ∨ g = 2 ∨ g = 3 ∨ g = 4 ∨ g = 5 ∨ g = 6 := by omega
      rcases this with rfl | rfl | rfl | rfl | rfl | rfl | rfl
      · exact ⟨_, rfl, od.od, od.pl⟩
      · exact ⟨_, rfl, tx (by have := nb.2.1; omega) (name_plain nb)⟩
      · exact ⟨_, rfl, tx (by decide) (by intro c hc; revert c; decide)⟩
      · exact ⟨_, rfl, tx (by decide) (by intro c hc; revert c; decide)⟩
      · exact ⟨_, rfl, tx (by decide) (by intro c hc; revert c; decide)⟩
      · exact ⟨_, rfl, tx (by decide) (by intro c hc; revert c; decide)⟩
      · exact ⟨_, rfl, tx (by decide) (by intro c hc; revert c; decide)⟩
    refine s_ixL (v := u) (SqL.of hl7) (atI_of g0 hu) (s_gName ?_)
    show tAsg _ _ _ [some (.ref a), some (.ref p), some (.int 1), some (.ref q), some (.ref o), none, none, none, none, some (.ref mo), some u] _
    have hmo7 := sqT_pool p4 e47 hmo
    have ho7 := sqT_pool p4 e47 ho4
    refine s_asg (s_ifE (s_test (s_op (s_call (s_cons (s_var (v := .ref a) rfl (s_cons (s_c (s_nil ?_)))))))))
    refine u_draw (by decide) (by decide) p7 fun f H8 f0 f1 e8 p8 => s_c (s_eqI (s_blQ ?_))
    have e18 := e17.trans e8
    by_cases c1 : f = 0
    · refine s_Td c1 (s_sl (s_var (v := .ref mo) rfl (s_noPart (s_part (s_op (s_c (s_call (s_cons (s_var (v := .ref a) rfl (s_cons (s_c (s_nil ?_))))))))))))
      refine u_draw (by decide) (by decide) p8 fun f2 H9 f20 f21 e9 p9 => s_addI (s_int1 (s_slA (sqT_pool p7 (e8.trans e9) hmo7) fun y1 G1 f1 g1 => ?_))
      rw [cutV_to (by omega)] at g1
      have e1G := (e18.trans e9).trans f1.wide
      have pG := p9.ex f1 (by simp)
      have he : ∀ x ∈ (M.st.map vS ++ st'.map vS).take (6 + f2).toNat, ElA K x := fun x hx => by
        rcases List.mem_append.mp (List.mem_of_mem_take hx) with hx | hx
        · exact elO x hx
        · exact ela_names hn' x hx
      have I : PtI K (q :: m) G1 1 (.ref y1) := ⟨_, th_ela pG (far e1G) g1 (by rw [List.length_take]; omega) he, plD_ela he⟩
      refine s_gSub (s_var (v := .ref q) rfl (s_c (put (j := 1) rfl (by decide) (w1.trans e1G) pG (e1G _ _ hqa hq) (N1.ex (toN e1G)) I fun G eG pG hG NG => ?_)))
      exact n23 (by decide) (by decide) (fun G' e p h N => n4 (by decide) e p h N) eG pG hG NG
    · refine s_Fd c1 (s_call (s_cons (s_var (v := .ref a) rfl (s_cons (s_var (v := .ref o) rfl (s_cons (s_var (v := u) rfl (s_nil ?_))))))))
      refine ⟨a, o, u, rfl, _, sqT_pool p7 e8 ho7, by rw [List.length_map]; omega, p8, fun y1 G1 f1 pG hB => ?_⟩
      have e1G := e18.trans f1
      have I : PtI K (q :: m) G1 1 (.ref y1) := bent_th pG (far e1G) (em e18 p8) hB (by rw [List.length_map]; omega) elO (hu1.ex (toN (e8.trans f1))) hu2
      refine s_gSub (s_var (v := .ref q) rfl (s_c (put (j := 1) rfl (by decide) (w1.trans e1G) pG (e1G _ _ hqa hq) (N1.ex (toN e1G)) I fun G eG pG hG NG => ?_)))
      exact n23 (by decide) (by decide) (fun G' e p h N => n4 (by decide) e p h N) eG pG hG NG
  · -- the rows, the turns
    refine s_seq (s_ifS (s_test (s_op (s_var (v := .int w) rfl (s_c (s_eqI (s_blQ (s_Fd (by omega) (s_next ?_)))))))))
    refine s_seq (s_ifS (s_test (s_op (s_var (v := .int w) rfl (s_c (s_eqI (s_blQ (s_Fd (by omega) (s_next ?_)))))))))
    refine s_seq (s_ifS (s_test (s_op (s_var (v := .int w) rfl (s_lst (s_cons (s_c (s_cons (s_c (s_nil (s_alloc (by show 2 ≤ sizeLine; decide) fun zz H2 _ e2 hzz => ?_)))))))))))
    refine s_inI (ls := [2, 3]) (SqL.of hzz) (s_blQ (s_Td (by simpa using h23) ?_))
    have p2 := p1.ex e2 (by simp)
    have hpp2 := e2.get0 hpp1
    have e12 : Ex [a] H1 H2 := e2.wide
    have lr : rs.length ≤ 24 := by rw [gr.2.2]; exact Nat.le_trans (Nat.mul_le_mul s4 t6) (by decide)
    have lt : ts.length ≤ 6 := Nat.le_trans (nodup_len gt.2 fun x hx => (gt.1 x hx).1) t6
    obtain ⟨z, ls, hz, hT, hl, hA⟩ : ∃ z ls, ([vS s, .ref o, .ref r, .ref t, .ref y] : List V)[w.toNat]? = some (.ref z) ∧ TupsAt K H2 z ls ∧ ls.length ≤ 50 ∧ ∀ l ∈ ls, 1 ≤ l.length ∧ l.length ≤ 5 ∧ ∀ x ∈ l, ElA K x := by
      rcases h23 with rfl | rfl
      · exact ⟨r, _, rfl, hr1.ex0 e2, by rw [List.length_map]; omega, ela_rw gs gst gr⟩
      · exact ⟨t, _, rfl, ht1.ex0 e2, by rw [List.length_map]; omega, ela_tn gst gt⟩
    refine s_asg (s_call (s_cons (s_var (v := .ref a) rfl (s_cons (s_op (s_var (v := .ref p) rfl (s_var (v := .int w) rfl (s_ixL (v := .ref z) (SqL.of hpp2) (atI_of w0 hz) ?_))))))))
    refine s_cons (s_call (s_cons (s_var (v := .ref a) rfl (s_cons (s_op (s_var (v := .ref p) rfl (s_var (v := .int w) rfl (s_ixL (v := .ref z) (SqL.of hpp2) (atI_of w0 hz) (s_cons (s_var (v := .ref o) rfl (s_nil ?_)))))))))))
    refine ⟨a, z, o, rfl, ls, M.st, (q :: m), hT, hl, hA, sq0 e2 ho1, gst, p2, far e12, fun v d H3 e3 p3 hv => s_nil ?_⟩
    obtain ⟨xs, hx, hxs⟩ := hT.exP p2 e3
    have e13 := e12.trans e3
    refine ⟨a, z, v, rfl, xs, hx, by have := hxs.1; omega, p3, fun y1 G1 f1 pG hB => ?_⟩
    have e1G := e13.trans f1
    have I0 : ∃ d, RwN K (q :: m) G1 (.ref y1) d := bent_rw pG (far e1G) (em e13 p3) hB (by have := hxs.1; omega) (fun x hx => by
      obtain ⟨p', l, rfl, hl, hp'⟩ := tups_el hxs hx
      exact ⟨_, th_ela pG (far e1G) (sqT_pool p3 f1 hp') (by have := (hA l hl).2.1; omega) (hA l hl).2.2⟩) ⟨d, hv.ex (toN f1)⟩
    have I : PtI K (q :: m) G1 w.toNat (.ref y1) := by
      rcases h23 with rfl | rfl
      · exact I0
      · exact I0
    refine s_gSub (s_var (v := .ref q) rfl (s_var (v := .int w) rfl (put (j := w.toNat) (by omega) (by omega) (w1.trans e1G) pG (e1G _ _ hqa hq) (N1.ex (toN e1G)) I fun G eG pG hG NG => ?_)))
    exact n4 (by omega) eG pG hG NG
  · -- the yes states
    refine s_seq (s_ifS (s_test (s_op (s_var (v := .int 4) rfl (s_c (s_eqI (s_blQ (s_Fd (by decide) (s_next ?_)))))))))
    refine s_seq (s_ifS (s_test (s_op (s_var (v := .int 4) rfl (s_c (s_eqI (s_blQ (s_Fd (by decide) (s_next ?_)))))))))
    refine s_seq (s_ifS (s_test (s_op (s_var (v := .int 4) rfl (s_lst (s_cons (s_c (s_cons (s_c (s_nil (s_alloc (by show 2 ≤ sizeLine; decide) fun zz H2 _ e2 hzz => ?_)))))))))))
    refine s_inI (ls := [2, 3]) (SqL.of hzz) (s_blQ (s_Fd (by decide) (s_next ?_)))
    have p2 := p1.ex e2 (by simp)
    have e12 : Ex [a] H1 H2 := e2.wide
    have ho2 := sq0 e2 ho1
    have hy2 := sq0 e2 hy1
    have ly : ys.length ≤ 6 := Nat.le_trans (nodup_len (f := id) (by rw [List.map_id]; exact gy.2) fun x hx => gy.1 x hx) t6
    obtain ⟨b, hb⟩ : ∃ b, M.st[0]? = some b := ⟨_, List.getElem?_eq_getElem (by omega)⟩
    have nb := gst.2.2.2 b (List.mem_of_getElem? hb)
    obtain ⟨b2, hb2, hb3⟩ := atI_lst hst
    have nb2 := gst.2.2.2 b2 hb2
    refine s_seq (s_ifS (s_test (s_op (s_var (v := .int 4) rfl (s_c (s_eqI (s_blQ (s_Td rfl ?_))))))))
    refine s_seq (s_asg (s_op (s_lst (s_cons (odd e12 p2 fun v H5 e5 p5 o5 => ?_)))))
    have ho5 := sqT_pool p2 e5 ho2
    refine s_cons (s_op (s_var (v := .ref o) rfl (s_c (s_ixT (v := vS b) ho5 (atI_of (by decide) (by rw [List.getElem?_map, show (0 : Int).toNat = 0 from rfl, hb]; rfl)) ?_))))
    refine s_cons (s_op (s_var (v := .ref o) rfl (s_un (s_c (s_negI (s_ixT (v := vS b2) ho5 hb3 (s_nil (s_alloc (by show 3 ≤ sizeLine; decide) fun l H6 nl e6 hl => ?_))))))))
    have p6 := (p5.ex e6 (by simp))
    refine s_call (s_cons (s_var (v := .ref a) rfl (s_cons (s_c (s_nil ?_)))))
    refine u_draw (by decide) (by decide) p6 fun g H7 g0 g1 e7 p7 => ?_
    have nla : l ∉ [a] := fun z => p5.there (by rw [← List.mem_singleton.mp z]; exact nl)
    have hl7 := e7.get nla hl
    have e57 : Ex [a] H5 H7 := e6.wide.trans e7
    have e27 := e5.trans e57
    have e17 := e12.trans e27
    have od := o5.exN (toN e57)
    obtain ⟨u, hu, hu1⟩ : ∃ u, ([v, vS b, vS b2] : List V)[g.toNat]? = some u ∧ OdN K (q :: m) H7 u := by
      have : g = 0 ∨ g = 1 ∨ g = 2 := by omega
      rcases this with rfl | rfl | rfl
      · exact ⟨_, rfl, od.od⟩
      · exact ⟨_, rfl, (ElA.S (by have := nb.2.1; omega) (name_plain nb)).od⟩
      · exact ⟨_, rfl, (ElA.S (by have := nb2.2.1; omega) (name_plain nb2)).od⟩
    refine s_ixL (v := u) (SqL.of hl7) (atI_of g0 hu) (s_gName ?_)
    show tAsg _ _ _ [some (.ref a), some (.ref p), some (.int 4), some (.ref q), some (.ref o), none, none, none, none, none, some u] _
    refine s_asg (s_call (s_cons (s_var (v := .ref a) rfl (s_cons (s_op (s_var (v := .ref p) rfl (s_c (s_ixL (v := .ref y) (SqL.of (e27.get hpa (e2.get0 hpp1))) rfl ?_))))))))
    refine s_cons (s_var (v := u) rfl (s_nil ?_))
    refine ⟨a, y, u, rfl, _, sqT_pool p2 e27 hy2, by rw [List.length_map]; omega, p7, fun y1 G1 f1 pG hB => ?_⟩
    have e1G := e17.trans f1
    have elY : ∀ x ∈ ys.map vS, ElA K x := ela_names fun l hl => gst.2.2.2 l (gy.1 l hl)
    have I : PtI K (q :: m) G1 4 (.ref y1) := by
      rcases hB with ⟨zs, h1, h2, h3⟩ | ⟨h1, h2⟩
      · rw [List.length_map] at h2
        refine ⟨some zs, th_tup pG (far e1G) h1 (by omega) fun x hx => ?_⟩
        rcases h3 x hx with rfl | hx
        · exact hu1.ex (toN f1)
        · exact (elY x hx).od
      · exact ⟨none, th_lst h2 fun z => em e17 p7 _ z h1⟩
    refine s_gSub (s_var (v := .ref q) rfl (s_c (put (j := 4) rfl (by decide) (w1.trans e1G) pG (e1G _ _ hqa hq) (N1.ex (toN e1G)) I fun G eG pG hG NG => ?_)))
    exact fin eG pG hG NG
end
end WB
namespace WB
open PySem PySem.Spec PyProof.Rows L2 LamX
def t_law_parts_right (K : PySem.W.Frag) : TS :=
  (tSeq (tAsg (tVar 0) (gLst K 5 (gCons (gName 1) (gCons (gName 2) (gCons (gName 3) (gCons (gName 4) (gCons (gName 5) gNil)))))))
  (tSeq (tAsg (tCall (sp_law_loop_due K) [] E0 (tCons (tVar 0) tNil)) (gName 6))
  (tSeq (tIfS (tTest (tOp (rNeD K) (tLam (tabs14 K) (TT_law_heard14 K) (fun E => (tMakeK (He.ga K "Loop") 4 1 (spx_Loop_init K) (fun vs zs => selG [(0, 0), (0, 1), (0, 2), (0, 3), (0, 4), (2, 0)] vs [(.ref (He.dflAt ("Loop", some "__init__") 0 K))] [] zs) E (tCons (tVar 1) (tCons (tVar 2) (tCons (tVar 3) (tCons (tVar 4) tNil)))) (tCons (tVar 5) tNil)))) (tVar 6))) (tRet (tC (.bl false))) tNext)
  (tSeq (tIfS (tTest (tOp (rNeD K) (tLam (tabs14 K) (TT_law_heard14 K) (fun E => (tMakeK (He.ga K "Loop") 0 5 (spx_Loop_init K) (fun vs zs => selG [(0, 0), (2, 4), (2, 2), (2, 3), (2, 1), (2, 0)] vs [(.ref (He.dflAt ("Loop", some "__init__") 0 K))] [] zs) E tNil (tCons (tVar 5) (tCons (tVar 4) (tCons (tVar 2) (tCons (tVar 3) (tCons (tVar 1) tNil)))))))) (tVar 6))) (tRet (tC (.bl false))) tNext)
  (tRet (tOp (rEqD K) (tLam (tabs14 K) (TT_law_heard14 K) (fun E => (tMakeK (He.ga K "Loop") 3 0 (spx_Loop_init K) (fun vs zs => selG [(0, 0), (0, 1), (0, 2), (0, 3), (1, 0), (3, 0)] vs [(.ref (He.dflAt ("Loop", some "__init__") 0 K))] [(.ref (kwdAt ("Loop", some "__init__") "yes" K))] zs) E (tCons (tVar 1) (tCons (tVar 2) (tCons (tVar 3) tNil))) tNil))) (tCall (sp_law_loop_due K) [] E0 (tCons (tLst (tCons (tVar 1) (tCons (tVar 2) (tCons (tVar 3) (tCons (tTup tNil) (tCons (tTup tNil) tNil)))))) tNil))))))))
section
variable {K : PySem.W.Frag} {vs : List V} {H H' : Hp} {Q : VK} {E : XK} {a q r : Addr} {m : List Addr} {v : V} {xs : List V}
theorem s_tth14 {tl : XK → Hp → VK → Prop} (k : tl (HeardE K heards14 Q) H fun _ H' => FinH K sNothing .non H' Q) : TT_law_heard14 K tl H Q := k
theorem due_rsd {v : V} {dv : PyData} {D : Due} (hd : Dx K H 5 v dv) (hD : D ≠ .ok) (hC : ∀ C w j, D = .at C w j → (C, ("index" : Str), w) ∈ heards14) (k : ∀ p H', Ex [] H H' → Fr (fun _ => True) H' 12 (.ref p) (.list [dS D.w, faceX 5 (D.d dv)]) → Q (.ref p) H') : RsdDue K H (HeardE K heards14 Q) v D := by
  cases D with
  | ok => exact hD rfl
  | signs => exact fun d H' _ e hx => ⟨"InvalidSigns", "given", s14Signs, .head _, rfl, d, v, rfl, hx, fin_of e (Dx.ex e _ _ _ hd) k⟩
  | «at» C w j => exact fun d H' _ e hx => ⟨C, "index", w, hC C w j rfl, rfl, d, oN j, rfl, hx, fin_of e (dx_scal (scal_oN j)) k⟩
theorem due_cls {v : V} {d1 d4 : Option (List V)} {d2 d3 : Option (List (Option (List V)))} : ∀ C w j, loopDue v d1 d2 d3 d4 = .at C w j → (C, ("index" : Str), w) ∈ heards14 := by
  intro C w j h
  unfold loopDue at h
  by_cases hb : badSg v = true
  · rw [if_pos hb] at h; cases h
  rw [if_neg hb] at h
  split at h
  · cases h; simp [heards14]
  split at h
  · cases h; simp [heards14]
  split at h
  · cases h; simp [heards14]
  split at h
  · cases h; simp [heards14]
  · cases h
theorem loop_ok {v : V} {d1 d4 : Option (List V)} {d2 d3 : Option (List (Option (List V)))} (h : loopDue v d1 d2 d3 d4 = .ok) : badSg v = false ∧ stDue d1 = none ∧ rowsDue (sOf v) (stOf d1) d2 = none ∧ endsDue (stOf d1) d3 = none ∧ yesDue (stOf d1) d4 = none := by
  cases hb : badSg v with
  | true => rw [loopDue_bad hb] at h; cases h
  | false =>
  cases h1 : stDue d1 with
  | some j => rw [loopDue_st hb h1] at h; cases h
  | none =>
  cases h2 : rowsDue (sOf v) (stOf d1) d2 with
  | some j => rw [loopDue_rw hb h1 h2] at h; cases h
  | none =>
  cases h3 : endsDue (stOf d1) d3 with
  | some j => rw [loopDue_tn hb h1 h2 h3] at h; cases h
  | none =>
  cases h4 : yesDue (stOf d1) d4 with
  | some j => rw [loopDue_ys hb h1 h2 h3 h4] at h; cases h
  | none => exact ⟨rfl, rfl, rfl, rfl, rfl⟩
theorem loop_heard {n m : Nat} {gV : List V → List V → List V} {us zs : List V} {v0 v1 v2 v3 v4 : V} {dv : PyData} {d1 d4 : Option (List V)} {d2 d3 : Option (List (Option (List V)))} (lu : us.length = n) (lz : zs.length = m) (eg : ∀ x : Addr, gV (.ref x :: us) zs = [.ref x, v0, v1, v2, v3, v4]) (P : PtK K H v0 v1 v2 v3 v4 dv d1 d2 d3 d4)
    (k : ∀ p H', Ex [] H H' → Fr (fun _ => True) H' 12 (.ref p) (.list [dS (loopDue v0 d1 d2 d3 d4).w, faceX 5 ((loopDue v0 d1 d2 d3 d4).d dv)]) → Q (.ref p) H') :
    MakeKG (He.ga K "Loop") n m (spx_Loop_init K) gV (HeardE K heards14 Q) us zs H fun _ H' => FinH K sNothing .non H' Q := by
  refine ⟨lu, lz, fun x dx hx hdx hne => ?_⟩
  have ex : Ex [] H (upd (upd H dx (.own x)) x (.ins (He.ga K "Loop") dx [])) := by
    refine (Ex.new hdx).trans (Ex.new ?_)
    rw [upd_ne (Ne.symm hne)]
    exact hx
  rw [eg]
  have P2 := P.ex0 ex
  by_cases ho : loopDue v0 d1 d2 d3 d4 = .ok
  · obtain ⟨hb, h1, h2, h3, h4⟩ := loop_ok ho
    rw [ho] at k
    obtain ⟨s, rfl, hs⟩ := sg_good hb
    obtain ⟨st, rfl, hst⟩ := stDue_ok h1
    rw [sOf_S, stOf_S] at h2
    rw [stOf_S] at h3 h4
    obtain ⟨t, rfl, ht⟩ := P2.st.at
    obtain ⟨rs, rfl, hrs⟩ := rowsDue_ok h2 hs hst
    obtain ⟨u, rfl, hu⟩ := P2.rw.tups
    obtain ⟨ts, rfl, hts⟩ := endsDue_ok h3
    obtain ⟨u', rfl, hu'⟩ := P2.tn.tups
    obtain ⟨ys, rfl, hys⟩ := yesDue_ok h4
    obtain ⟨y, rfl, hy⟩ := P2.ys.at
    exact .inl ⟨x, s, t, u, u', y, dx, rfl, upd_same, st, rs, ts, ys, hs, ht, hst, hu, hrs, hu', hts, hy, hys, fun H2 e2 hl => ⟨rfl, fin_of (Ex.dropN hx ex e2) (dx_scal (.inl ⟨rfl, rfl⟩)) k⟩⟩
  · exact .inr ⟨_, v0, v1, v2, v3, v4, rfl, dv, d1, d2, d3, d4, P2, due_rsd P2.f ho due_cls fun p H' e f => k p H' (ex.trans e) f⟩
theorem sqT_n0 {t : Addr} (e : ExN [] H H') (h : SqT K H t xs) : SqT K H' t xs := by
  rcases h with (h | ⟨o, h⟩) | h
  · exact .inl (.inl (e _ _ (by simp) h fun _ z => by cases z))
  · exact .inl (.inr ⟨o, e _ _ (by simp) h fun _ z => by cases z⟩)
  · exact .inr h
theorem pure_law_parts_right (D0 : Dfl0 K) (DK : ∀ H : Hp, SqT K H (kwdAt ("Loop", some "__init__") "yes" K) []) (h : sp_law_parts_right K vs H Q E) : t_law_parts_right K (E1 Q) (start ["_law_parts_here", "_law_abc", "_law_posts", "_law_lines", "_law_ends", "_law_oks", "_law_due"] vs) H := by
  obtain ⟨p, rfl, v0, v1, v2, v3, v4, dv, d1, d2, d3, d4, hp, P, hT, k⟩ := h
  show t_law_parts_right K (E1 Q) [some (.ref p), none, none, none, none, none, none] H
  unfold t_law_parts_right
  refine s_seq (s_asg (s_var (v := .ref p) rfl (s_gLst (SqL.of hp) rfl (s_gCons (s_gName (s_gCons (s_gName (s_gCons (s_gName (s_gCons (s_gName (s_gCons (s_gName (s_gNil ?_))))))))))))))
  refine s_seq (s_asg (s_call (s_cons (s_var (v := .ref p) rfl (s_nil ?_)))))
  refine ⟨p, rfl, v0, v1, v2, v3, v4, dv, d1, d2, d3, d4, SqL.of hp, P H ExN.refl, fun r H1 e1 f1 => s_gName ?_⟩
  show tSeq _ _ _ [some (.ref p), some v0, some v1, some v2, some v3, some v4, some (.ref r)] _
  have x1 : ExN [] H H1 := ExN.of e1
  have t1 := Tabs.ex0 e1 hT
  clear hT
  refine s_seq (s_ifS (s_test (s_op (s_lam t1 fun G2 e2 t2 => s_tth14 ?_))))
  have x2 := x1.trans (ExN.ofT e2)
  refine s_makeK (s_cons (s_var (v := v0) rfl (s_cons (s_var (v := v1) rfl (s_cons (s_var (v := v2) rfl (s_cons (s_var (v := v3) rfl (s_nil (s_cons (s_var (v := v4) rfl (s_nil ?_))))))))))))
  refine loop_heard rfl rfl (fun x => rfl) (P G2 x2) fun p2 G3 e3 f3 => ?_
  refine s_var (v := .ref r) rfl (s_neFr (n := 12) (by decide) f3 ((f1.extN e2).ex0 e3) (s_blQ (s_F rfl (s_next ?_))))
  have x3 := x2.trans (ExN.of e3)
  have t3 := Tabs.ex0 e3 t2
  have f13 := (f1.extN e2).ex0 e3
  clear x1 t1 e2 t2 x2 f1 f3 e3
  refine s_seq (s_ifS (s_test (s_op (s_lam t3 fun G4 e4 t4 => s_tth14 ?_))))
  have x4 := x3.trans (ExN.ofT e4)
  refine s_makeK (s_nil (s_cons (s_var (v := v4) rfl (s_cons (s_var (v := v3) rfl (s_cons (s_var (v := v1) rfl (s_cons (s_var (v := v2) rfl (s_cons (s_var (v := v0) rfl (s_nil ?_))))))))))))
  refine loop_heard rfl rfl (fun x => rfl) (P G4 x4) fun p4 G5 e5 f5 => ?_
  refine s_var (v := .ref r) rfl (s_neFr (n := 12) (by decide) f5 ((f13.extN e4).ex0 e5) (s_blQ (s_F rfl (s_next ?_))))
  have x5 := x4.trans (ExN.of e5)
  have t5 := Tabs.ex0 e5 t4
  clear x3 t3 e4 t4 x4 f5 e5 f13
  refine s_ret (s_op (s_lam t5 fun G6 e6 t6 => s_tth14 ?_))
  have x6 := x5.trans (ExN.ofT e6)
  refine s_makeK (s_cons (s_var (v := v0) rfl (s_cons (s_var (v := v1) rfl (s_cons (s_var (v := v2) rfl (s_nil (s_nil ?_))))))))
  have em : ∀ {z : Addr} {G : Hp}, SqT K G z [] → RwK K G (.ref z) (some []) := fun h => .tup h rfl (by simp) fun i x d h => by cases h
  have et : ∀ {z : Addr} {G : Hp}, SqT K G z [] → ThK K G (.ref z) (some []) := fun h => .tup h (by simp) (by simp)
  have P6 := P G6 x6
  refine loop_heard rfl rfl (fun x => rfl) (⟨P6.s, P6.f, P6.st, P6.pl, P6.rw, em (D0 G6), et (DK G6)⟩ : PtK K G6 v0 v1 v2 _ _ dv d1 d2 (some []) (some [])) fun p6 G7 e7 f7 => ?_
  have x7 := x6.trans (ExN.of e7)
  refine s_call (s_cons (s_lst (s_cons (s_var (v := v0) rfl (s_cons (s_var (v := v1) rfl (s_cons (s_var (v := v2) rfl (s_cons (s_tup (s_nil (s_alloc (by show 0 ≤ sizeLine; decide) fun z1 G8 _ e8 h8 => ?_))))))))))))
  refine s_cons (s_tup (s_nil (s_alloc (by show 0 ≤ sizeLine; decide) fun z2 G9 _ e9 h9 => s_nil (s_alloc (by show 5 ≤ sizeLine; decide) fun z3 G10 _ e10 h10 => s_nil ?_))))
  have x10 := ((x7.trans (ExN.of e8)).trans (ExN.of e9)).trans (ExN.of e10)
  have P10 := P G10 x10
  refine ⟨z3, rfl, v0, v1, v2, _, _, dv, d1, d2, some [], some [], SqL.of h10, ⟨P10.s, P10.f, P10.st, P10.pl, P10.rw, em (SqT.of (e10.get0 (e9.get0 h8))), et (SqT.of (e10.get0 h9))⟩, fun r2 G11 e11 f11 => ?_⟩
  refine s_eqFr (by decide) ((((f7.ex0 e8).ex0 e9).ex0 e10).ex0 e11) f11 ?_
  exact k _ (x10.trans (ExN.of e11)) (Tabs.ex0 (((e7.trans e8).trans (e9.trans e10)).trans e11) t6)
end
end WB
namespace WB
open PySem PySem.Spec PyProof.Rows L2
local macro_rules | `(tactic| walk_at "lit") => `(tactic| first | exact lit_abc | exact lit_empty)
local macro_rules | `(tactic| walk_at "nm") => `(tactic| focus first | exact List.not_mem_nil | (simp only [List.mem_singleton]; first | assumption | (exact Ne.symm (by assumption)) | (intro hz; subst hz; simp_all; done)))
local macro_rules | `(tactic| walk_at "hp") => `(tactic| first | assumption | (apply Ex.get0 (by assumption); walk_at "hp") | (apply Ex.get (by assumption); (walk_at "nm"); (walk_at "hp")))
local macro_rules | `(tactic| walk_at "sq") => `(tactic| first | assumption | (apply SqL.of; walk_at "hp") | (apply Ex.sqL (by assumption); (walk_at "nm"); (walk_at "sq")))
local macro_rules | `(tactic| walk_at "sqt") => `(tactic| first | assumption | (apply SqT.of; walk_at "hp") | (apply Ex.sqT (by assumption); (walk_at "nm"); (walk_at "sqt")))
local macro_rules | `(tactic| walk_at "sz") => `(tactic| focus ((with_reducible refine Nat.le_trans (m := 100000) ?_ (by decide)); first | omega | (simp; done) | (simp; omega)))
local macro_rules | `(tactic| walk_at "mul") => `(tactic| first | exact Or.inr ⟨by omega, by omega⟩ | exact Or.inl ⟨by omega, by omega⟩)
local macro_rules | `(tactic| walk_at "pool") => `(tactic| first | assumption | (apply PoolAt.ex (by assumption); (walk_at "nm"); (walk_at "pool")))
local macro_rules | `(tactic| walk_at "ring") => `(tactic| first | assumption | (apply RingAt.ex (by assumption); (walk_at "nm"); (walk_at "ring")))
local macro_rules | `(tactic| walk_at "st") => `(tactic| first
  | with_reducible refine s_seq ?_
  | with_reducible refine s_asg ?_
  | with_reducible refine s_gName ?_
  | with_reducible refine s_ret ?_
  | with_reducible refine s_ifS ?_
  | with_reducible refine s_next ?_
  | with_reducible refine s_op ?_
  | ((with_reducible apply s_var); exact rfl)
  | ((with_reducible apply s_cS); (walk_at "lit"))
  | with_reducible refine s_c ?_
  | with_reducible refine s_cb ?_
  | with_reducible refine s_cons ?_
  | with_reducible refine s_nil ?_
  | with_reducible refine s_un ?_
  | with_reducible refine s_call ?_
  | with_reducible refine s_test ?_
  | with_reducible refine s_tB ?_
  | with_reducible refine s_blQ ?_
  | with_reducible refine s_not ?_
  | with_reducible refine s_and ?_
  | with_reducible refine s_or ?_
  | with_reducible refine s_andV ?_
  | with_reducible refine s_orV ?_
  | with_reducible refine s_notV ?_
  | with_reducible refine s_ifE ?_
  | with_reducible refine s_chain ?_
  | ((with_reducible refine s_T ?_ ?_); (with_reducible exact rfl))
  | with_reducible refine s_nT ?_
  | with_reducible refine s_nF ?_
  | ((with_reducible refine s_F ?_ ?_); (with_reducible exact rfl))
  | ((with_reducible refine s_T ?_ ?_); assumption)
  | ((with_reducible refine s_F ?_ ?_); assumption)
  | ((with_reducible refine s_nB ?_ ?_); assumption)
  | ((with_reducible refine s_nA ?_ ?_); assumption)
  | ((with_reducible refine s_Td ?_ ?_); omega)
  | ((with_reducible refine s_Fd ?_ ?_); omega)
  | ((with_reducible refine s_nTd ?_ ?_); omega)
  | ((with_reducible refine s_nFd ?_ ?_); omega)
  | with_reducible refine s_sfld ?_
  | with_reducible refine s_addI ?_
  | with_reducible refine s_subI ?_
  | ((with_reducible refine s_mulI ?_ ?_); (walk_at "mul"))
  | ((with_reducible refine s_divI ?_ ?_); exact ⟨by omega, by omega⟩)
  | ((with_reducible refine s_modI ?_ ?_); omega)
  | ((with_reducible refine s_powI ?_ ?_); exact ⟨by decide, by decide, by decide⟩)
  | with_reducible refine s_ltI ?_
  | with_reducible refine s_leI ?_
  | with_reducible refine s_gtI ?_
  | with_reducible refine s_geI ?_
  | with_reducible refine s_negI ?_
  | with_reducible refine s_absI ?_
  | with_reducible refine s_intI ?_
  | with_reducible refine s_min2 ?_
  | with_reducible refine s_max2 ?_
  | with_reducible refine s_eqI ?_
  | with_reducible refine s_neI ?_
  | with_reducible refine s_eqS ?_
  | with_reducible refine s_neS ?_
  | with_reducible refine s_inSg ?_
  | with_reducible refine s_notInSg ?_
  | ((with_reducible refine s_addS ?_ ?_); (walk_at "sz"))
  | ((with_reducible refine s_lenS ?_ ?_); (walk_at "sz"))
  | ((with_reducible apply s_lenL); (walk_at "sq"))
  | ((with_reducible apply s_lenT); (walk_at "sqt"))
  | ((with_reducible apply s_ixL); (walk_at "sq"); exact rfl)
  | ((with_reducible apply s_ixT); (walk_at "sqt"); exact rfl)
  | with_reducible refine s_gSub ?_
  | ((with_reducible apply s_setL); (walk_at "hp"); (exact rfl); (intro _ _ _))
  | ((with_reducible refine s_alloc ?_ ?_); (walk_at "sz"); (intro _ _ _ _ _))
  | ((with_reducible refine s_divmod ?_ ?_); (exact ⟨by omega, PyProof.noPylong_small (by omega)⟩); (intro _ _ _ _ _))
  | ((with_reducible apply s_gTup); (walk_at "sqt"); (exact rfl))
  | ((with_reducible apply s_gLst); (walk_at "sq"); (exact rfl))
  | with_reducible refine s_gCons ?_
  | with_reducible refine s_gNil ?_
  | with_reducible refine s_lc ?_
  | ((with_reducible apply s_cat); (walk_at "hp"); (walk_at "hp"); (walk_at "sz"); (intro _ _ _ _ _))
  | ((with_reducible apply s_slL); (walk_at "sq"); (intro _ _ _ _ _))
  | with_reducible refine s_for ?_
  | with_reducible refine s_rng1 ?_
  | ((with_reducible refine s_rng1i ?_ ?_); (constructor <;> omega))
  | with_reducible refine s_rng2 ?_
  | ((with_reducible refine s_rng2i ?_ ?_); (refine ⟨?_, ?_, ?_, ?_⟩ <;> omega))
  | with_reducible refine s_iStr ?_
  | with_reducible refine s_iStrS ?_
  | with_reducible refine s_iList ?_
  | ((with_reducible apply s_iListA); (walk_at "sq"))
  | with_reducible refine s_iTup ?_
  | ((with_reducible apply s_iTupA); (walk_at "sqt"))
  | with_reducible refine s_sl ?_
  | with_reducible refine s_noPart ?_
  | with_reducible refine s_part ?_
  | with_reducible refine s_int1 ?_
  | ((with_reducible refine s_slS ?_ ?_); (walk_at "sz"))
  | with_reducible refine s_tup ?_
  | with_reducible refine s_lst ?_
  | with_reducible refine s_par ?_
  | with_reducible refine s_pair ?_
  | with_reducible refine s_M1 ?_
  | with_reducible refine s_isStr ?_
  | with_reducible refine s_revS ?_
  | ((with_reducible refine s_revS1 ?_ ?_); (walk_at "sz"))
  | with_reducible refine s_fldE ?_
  | with_reducible refine s_propE ?_
  | ((with_reducible refine u_draw ?_ ?_ ?_ ?_); omega; omega; (walk_at "pool"); (intro _ _ _ _ _ _))
  | ((with_reducible refine u_pool ?_); (intro _ _ _ _ _))
  | with_reducible refine u_is_integer ?_
  | with_reducible refine s_isiII ?_
  | with_reducible refine s_isiIB ?_
  | with_reducible refine s_isiSS ?_
  | ((with_reducible apply u_fldRing); assumption; (walk_at "ring"))
  | ((with_reducible apply u_textP); (walk_at "ring"))
  | ((with_reducible apply u_strRing); (walk_at "ring"))
  | ((with_reducible apply u_eqRing); (walk_at "ring"); (walk_at "ring"))
  | ((with_reducible apply u_isiRing); assumption; (walk_at "ring"))
  | ((with_reducible refine u_is_word ?_ ?_); omega; (intro _ _))
  | ((with_reducible refine u_turnings ?_ ?_); omega; (intro _ _ _ _ _))
  | with_reducible refine s_makeE ?_
  | with_reducible refine s_methE ?_)
local macro_rules | `(tactic| walk_at "go") => `(tactic| repeat (walk_at "st"))
local macro_rules | `(tactic| walk_at "exs") => `(tactic| first | exact Ex.rfl | assumption | (apply Ex.snoc (by assumption); walk_at "exs") | (apply Ex.snocW (by assumption); walk_at "exs"))
local macro_rules | `(tactic| walk_at "kind") => `(tactic| first | assumption | (apply KindAt.ex0 (by assumption); (walk_at "kind")) | (apply KindAt.exP (by assumption) (by assumption); (walk_at "kind")))
local macro_rules | `(tactic| walk_at "st") => `(tactic| first
  | with_reducible refine s_lenSet ?_
  | with_reducible refine s_drop ?_
  | with_reducible refine s_bm ?_
  | with_reducible refine s_notN ?_
  | with_reducible refine s_isN ?_
  | ((with_reducible apply s_tyL); (walk_at "hp"))
  | with_reducible refine s_enumT ?_
  | ((with_reducible apply s_enumTA); (walk_at "sqt"))
  | with_reducible refine s_lc2 ?_)
local macro_rules | `(tactic| walk_at "lit") => `(tactic| exact lit_MRK)
local macro_rules | `(tactic| walk_at "st") => `(tactic| first
  | with_reducible refine s_dcT ?_
  | with_reducible refine s_dc ?_)
local macro_rules | `(tactic| walk_at "lit") => `(tactic| exact lit_z)
def t_law_shufU (K : PySem.W.Frag) : TS :=
  (tSeq (tPar 2 3 (tCons (tCB (rListU K) (tCons (tVar 1) tNil)) (tCons (tLst tNil) tNil)))
  (tSeq (tFor (iRng1 (tCons (tCB (rLenV K) (tCons (tVar 1) tNil)) tNil)) (gName 4) (tDrop (tBM K "list" rAppend (tVar 3) (tCons (tBM K "list" rPopAt (tVar 2) (tCons (tCall (sp_law_draw K) [] E0 (tCons (tVar 0) (tCons (tCB (rLenV K) (tCons (tVar 2) tNil)) tNil))) tNil)) tNil))))
  (tRet (tVar 3))))
def t_law_lineF (K : PySem.W.Frag) : TS :=
  (tSeq (tAsg (tVar 0) (gLst K 5 (gCons (gName 1) (gCons (gName 2) (gCons (gName 3) (gCons (gName 4) (gCons (gName 5) gNil)))))))
  (tSeq (tAsg (tM1 (rJoin K) (tC (.str "")) (tCB (rSrt K) (tCons (tVar 1) tNil))) (gName 1))
  (tSeq (tAsg (tLst tNil) (gName 6))
  (tSeq (tFor (iList K (tVar 2)) (gName 7) (tAsg (tOp rCat (tVar 6) (tLc (iStr (tVar 1)) (gName 8) tYes (tOp (rCatA K) (tTup (tCons (tVar 7) (tCons (tVar 8) tNil))) (tDGet (tVar 3) (tTup (tCons (tVar 7) (tCons (tVar 8) tNil))))) [8])) (gName 6)))
  (tSeq (tAsg (tLc (iList K (tVar 2)) (gName 7) tYes (tOp (rCatA K) (tTup (tCons (tVar 7) tNil)) (tDGet (tVar 4) (tVar 7))) [7]) (gName 9))
  (tRet (tTup (tCons (tVar 1) (tCons (tCB (rTupOf K) (tCons (tVar 2) tNil)) (tCons (tCB (rTupOf K) (tCons (tVar 6) tNil)) (tCons (tCB (rTupOf K) (tCons (tVar 9) tNil)) (tCons (tCB (rTupOf K) (tCons (tLc (iList K (tVar 2)) (gName 7) (tTest (tOp (rIn K false) (tVar 7) (tVar 5))) (tVar 7) [7]) tNil)) tNil))))))))))))
def t_law_parts (K : PySem.W.Frag) : TS :=
  (tSeq (tAsg (tCall (sp_law_lineF K) [] E0 (tCons (tVar 1) tNil)) (gName 2))
  (tSeq (tAsg (tLc (iTup K (tOp (rIxT K) (tVar 2) (tC (.int 3)))) (gName 4) (tOr (tTest (tOp (rNeD K) (tSl (rSlA K) (tVar 4) (tPart (tC (.int 1))) tNoPart) (tTup (tCons (tOp (rIxT K) (tVar 4) (tC (.int 0))) (tCons (tC (.int 0)) tNil))))) (tTest (tOp rEq (tCall (sp_law_draw K) [] E0 (tCons (tVar 0) (tCons (tC (.int 2)) tNil))) (tC (.int 0))))) (tVar 4) [4]) (gName 3))
  (tSeq (tAsg (tM1 (rJoin K) (tC (.str "")) (tCall (sp_law_shufU K) [] E0 (tCons (tVar 0) (tCons (tOp (rIxT K) (tVar 2) (tC (.int 0))) tNil)))) (gName 5))
  (tSeq (tAsg (tCB (rTupOf K) (tCons (tCall (sp_law_shufU K) [] E0 (tCons (tVar 0) (tCons (tOp (rIxT K) (tVar 2) (tC (.int 2))) tNil))) tNil)) (gName 6))
  (tRet (tLst (tCons (tVar 5) (tCons (tOp (rIxT K) (tVar 2) (tC (.int 1))) (tCons (tVar 6) (tCons (tCB (rTupOf K) (tCons (tCall (sp_law_shufU K) [] E0 (tCons (tVar 0) (tCons (tVar 3) tNil))) tNil)) (tCons (tCB (rTupOf K) (tCons (tCall (sp_law_shufU K) [] E0 (tCons (tVar 0) (tCons (tOp (rIxT K) (tVar 2) (tC (.int 4))) tNil))) tNil)) tNil)))))))))))
section
variable {K : PySem.W.Frag} {vs : List V} {H H1 : Hp} {Q : VK} {E : XK}
theorem pure_law_lineF (h : sp_law_lineF K vs H Q E) : t_law_lineF K (E1 Q) (start ["_law_model_here", "_law_abc", "_law_posts", "_law_steps", "_law_ends", "_law_oks", "_law_lines", "_law_post", "_law_mark", "_law_closings"] vs) H := by
  obtain ⟨q, rfl, M, ⟨po, ss, es, oo, kt, ke, h1, h2, h3, h4, h5, h6, h7⟩, g, k⟩ := h
  show t_law_lineF K (E1 Q) [some (.ref q), none, none, none, none, none, none, none, none, none] H
  unfold t_law_lineF
  have hs4 := g.ab.2.1
  have hs6 := g.st.2.1
  walk_at "go"
  refine s_srtS (by omega) fun p1 H1 np1 e1 z1 => ?_
  have hsgl : (sgn M.ab).length ≤ 4 := by rw [(sgn_perm M.ab).length_eq]; exact hs4
  refine s_join0 (SqL.of z1) (Nat.le_trans hsgl (by decide)) ?_
  show gName 1 (vS (sgn M.ab)) _ _ _
  walk_at "go"
  rename_i l0 H2 nl0 e2 z2
  have e02 := e1.trans e2
  clear e1 e2 z1 np1
  refine for_run (walk_list (xs := M.st.map vS)) (fun i σ G => ∃ l xs x7 x8, σ = [some (.ref q), some (vS (sgn M.ab)), some (.ref po), some (.ref ss), some (.ref es), some (.ref oo), some (.ref l), x7, x8, none] ∧ Ex [] H G ∧ G l = some (.lst xs) ∧ Tups K G xs ((M.st.take i).flatMap fun b => (sgn M.ab).map fun c => rwV ⟨b, c, (M.tb b c).1, (M.tb b c).2⟩)) ⟨l0, [], _, _, rfl, e02, z2, by simpa using Tups.nil⟩ (fun i σ G _ ⟨_, _, _, _, _, z, _⟩ => SqL.of (z.get0 h2)) ?_ ?_
  · rintro i x σ G G2 hi ⟨l, xs, x7, x8, rfl, e3, z3, t3⟩ ⟨rfl, hx⟩
    rw [List.length_map] at hi
    rw [List.getElem?_map, List.getElem?_eq_getElem hi] at hx
    cases hx
    have hin : M.st[i] ∈ M.st := List.getElem_mem hi
    have htk : M.st.take (i + 1) = M.st.take i ++ [M.st[i]] := by rw [List.take_add_one, List.getElem?_eq_getElem hi]; rfl
    rw [htk]
    generalize M.st[i] = b at hin
    walk_at "go"
    refine lc_tupsS (K := K) (by omega) (fun c => rwV ⟨b, c, (M.tb b c).1, (M.tb b c).2⟩) (fun c G3 C hc e4 kc => ?_) fun D G3 ys hD e4 z4 t4 => ?_
    · have hc' : c ∈ M.ab := (sgn_perm M.ab).mem_iff.mp hc
      walk_at "go"
      rename_i q1 G4 nq1 e5 z5
      refine s_dget ?_
      walk_at "go"
      rename_i q2 G5 nq2 e6 z6
      have e05 : Ex [] H G5 := (e3.trans e4).trans (e5.trans e6)
      refine s_getT (e05.get0 h3) (h4.ex0 e05) hin hc' z6 fun p hp => ?_
      refine s_catA (SqT.of (e6.get0 z5)) hp (by simp) (by simp) (by simp) fun z G6 nz e7 z7 => ?_
      exact kc _ _ ((e5.trans e6).trans e7) (SqT.of z7)
    have lx : xs.length ≤ 100 := by
      rw [t3.1]
      have : ∀ l : List (List Nat), l.length ≤ 6 → (l.flatMap fun b => (sgn M.ab).map fun c => rwV ⟨b, c, (M.tb b c).1, (M.tb b c).2⟩).length ≤ l.length * 4 := by
        intro l
        induction l with
        | nil => simp
        | cons a l ih =>
          intro h
          have := ih (by simp at h; omega)
          rw [List.flatMap_cons, List.length_append, List.length_map, List.length_cons]
          omega
      have := this (M.st.take i) (by rw [List.length_take]; omega)
      rw [List.length_take] at this
      omega
    have ly : ys.length ≤ 100 := by rw [t4.1, List.length_map]; omega
    refine s_cat (e4.get0 z3) z4 (Nat.le_trans (m := 1000) (by omega) (by decide)) fun u G4 nu e5 z5 => ?_
    walk_at "go"
    refine ⟨u, xs ++ ys, _, _, rfl, (e3.trans e4).trans e5, z5, ?_⟩
    rw [List.flatMap_append]
    refine ((t3.ex0 e4).ex0 e5).app ?_
    simpa using t4.ex0 e5
  · rintro σ G ⟨l, xs, x7, x8, rfl, e3, z3, t3⟩
    rw [List.length_map, List.take_length] at t3
    refine s_seq (s_asg (s_lc (s_iList (s_var rfl ?_))))
    refine s_iListA (xs := M.st.map vS) (SqL.of (e3.get0 h2)) ?_
    refine lc_tupsL (K := K) (SqL.of (e3.get0 h2)) (by omega) (fun b => tnV ⟨b, (M.en b).1, (M.en b).2⟩) (fun b G3 C hb e4 kc => ?_) fun D G3 ys hD e4 z4 t4 => ?_
    · walk_at "go"
      rename_i q1 G4 nq1 e5 z5
      refine s_dget ?_
      walk_at "go"
      have e04 : Ex [] H G4 := (e3.trans e4).trans e5
      refine s_getE (e04.get0 h5) (h6.ex0 e04) hb fun p hp => ?_
      refine s_catA (SqT.of z5) hp (by simp) (by simp) (by simp) fun z G6 nz e7 z7 => ?_
      exact kc _ _ (e5.trans e7) (SqT.of z7)
    refine s_gName ?_
    refine s_ret (s_tup (s_cons (s_var rfl (s_cons (s_cb (s_cons (s_var rfl (s_nil ?_))))))))
    have e04 := e3.trans e4
    refine s_tupOf (SqL.of (e04.get0 h2)) fun u1 G4 nu1 e5 z5 => ?_
    refine s_cons (s_cb (s_cons (s_var rfl (s_nil ?_))))
    refine s_tupOf (SqL.of ((e4.trans e5).get0 z3)) fun u2 G5 nu2 e6 z6 => ?_
    refine s_cons (s_cb (s_cons (s_var rfl (s_nil ?_))))
    refine s_tupOf (SqL.of ((e5.trans e6).get0 z4)) fun u3 G6 nu3 e7 z7 => ?_
    have e06 : Ex [] H G6 := e04.trans ((e5.trans e6).trans e7)
    refine s_cons (s_cb (s_cons (s_lc (s_iList (s_var rfl ?_)))))
    refine s_iListA (xs := M.st.map vS) (SqL.of (e06.get0 h2)) ?_
    refine lc_fm8 (SqL.of (e06.get0 h2)) (by omega) (fun b => decide (b ∈ M.ok)) vS (fun b G7 C1 C0 hb e8 k1 k0 => ?_) fun D2 G7 hD2 e8 z8 => ?_
    · walk_at "go"
      refine s_inL (SqL.of ((e06.trans e8).get0 h7)) ?_
      walk_at "go"
      refine s_2 (fun hb => ?_) (fun hb => ?_)
      · walk_at "go"
        exact k1 _ Ex.rfl hb
      · exact k0 _ Ex.rfl hb
    refine s_nil ?_
    refine s_tupOf (SqL.of z8) fun u4 G8 nu4 e9 z9 => ?_
    refine s_nil ?_
    refine s_alloc (by show 5 ≤ sizeLine; decide) fun p G9 np e10 z10 => ?_
    have eT : (rwsOf (fltM M)).map rwV = M.st.flatMap fun b => (sgn M.ab).map fun c => rwV ⟨b, c, (M.tb b c).1, (M.tb b c).2⟩ := by
      unfold rwsOf
      rw [List.map_flatMap]
      congr 1
      funext a
      rw [List.map_map]
      rfl
    have eU : (tnsOf (fltM M)).map tnV = M.st.map fun b => tnV ⟨b, (M.en b).1, (M.en b).2⟩ := by
      unfold tnsOf
      rw [List.map_map]
      rfl
    have e810 := e8.trans (e9.trans e10)
    refine k p G9 (e06.trans e810) ⟨u1, u2, u3, u4, SqT.of z10, SqT.of ((e6.trans (e7.trans e810)).get0 z5), ?_, ?_, SqT.of (e10.get0 z9)⟩
    · rw [eT]
      exact TupsAt.mk (SqT.of ((e7.trans e810).get0 z6)) (t3.ex0 (e4.trans (e5.trans (e6.trans (e7.trans e810)))))
    · rw [eU]
      exact TupsAt.mk (SqT.of (e810.get0 z7)) (t4.ex0 (e5.trans (e6.trans (e7.trans e810))))
theorem pure_law_shufU (h : sp_law_shufU K vs H Q E) : t_law_shufU K (E1 Q) (start ["_law_pool_here", "_law_things", "_law_rest", "_law_found", "_law_turn"] vs) H := by
  obtain ⟨a, v, rfl, l, hv, hl, hp, k⟩ := h
  show t_law_shufU K (E1 Q) [some (.ref a), some v, none, none, none] H
  unfold t_law_shufU
  walk_at "go"
  refine s_listU hv hl fun p1 H1 n1 e1 h1 => ?_
  walk_at "go"
  rename_i p2 H2 n2 e2 h2
  have ne12 : p2 ≠ p1 := fun z => by rw [z, h1] at n2; cases n2
  have ne1a : p1 ≠ a := fun z => hp.there (z ▸ n1)
  have ne2a : p2 ≠ a := fun z => (show PoolAt H1 a by walk_at "pool").there (z ▸ n2)
  have n20 : H p2 = none := e1.free n2
  refine s_lenU ((hv.ex0 e1).ex0 e2) hl ?_
  walk_at "go"
  refine for_rng (fun i σ H' => ∃ (r f : List V) (x4 : Option V), σ = [some (.ref a), some v, some (.ref p1), some (.ref p2), x4] ∧ r.length + i = l.length ∧ (f ++ r).Perm l ∧ H' p1 = some (.lst r) ∧ H' p2 = some (.lst f) ∧ Ex [a] H H' ∧ PoolAt H' a)
    ⟨l, [], _, rfl, rfl, List.Perm.refl _, by walk_at "hp", h2, by walk_at "exs", by walk_at "pool"⟩ ?_ ?_
  · rintro i _ H3 hi ⟨r, f, x4, rfl, hr, hf, h31, h32, e3, p3⟩
    have hi : i < l.length := by omega
    have hfl : f.length ≤ 600 := by have := hf.length_eq; rw [List.length_append] at this; omega
    walk_at "go"
    rename_i d H4 d0 d1 e4 p4
    have hdl : d.toNat < r.length := by omega
    have h41 : H4 p1 = some (.lst r) := by walk_at "hp"
    have h42 : H4 p2 = some (.lst f) := by walk_at "hp"
    refine s_popAt (i := d.toNat) (y := r[d.toNat]) h41 (by omega) (by omega) (List.getElem?_eq_getElem hdl) fun H5 e5 h51 => ?_
    walk_at "go"
    refine s_append (xs := f) (by walk_at "hp") (Nat.lt_of_le_of_lt hfl (by decide)) fun H6 e6 h62 => ?_
    walk_at "go"
    refine ⟨r.eraseIdx d.toNat, f ++ [r[d.toNat]], _, rfl, ?_, ?_, ?_, ?_, ?_, ?_⟩
    · rw [List.length_eraseIdx, if_pos hdl]; omega
    · rw [List.append_assoc]
      exact (List.Perm.append_left f (erase_perm hdl)).trans hf
    · walk_at "hp"
    · exact h62
    · exact Ex.dropM n20 (Ex.dropM n1 (e3.trans e4) e5) e6
    · have p5 : PoolAt H5 a := PoolAt.ex e5 (by simpa using Ne.symm ne1a) p4
      exact PoolAt.ex e6 (by simpa using Ne.symm ne2a) p5
  · rintro _ H3 ⟨r, f, x4, rfl, hr, hf, h31, h32, e3, p3⟩
    walk_at "go"
    have : r = [] := List.length_eq_zero_iff.mp (by omega)
    subst this
    rw [List.append_nil] at hf
    exact k f p2 H3 hf n20 e3 p3 h32
theorem Tups.exP {a : Addr} {xs : List V} {ls : List (List V)} {H H' : Hp} (hp : PoolAt H a) (e : Ex [a] H H') (h : Tups K H xs ls) : Tups K H' xs ls := ⟨h.1, fun i x l h1 h2 => by
  obtain ⟨p, h3, h4⟩ := h.2 i x l h1 h2
  exact ⟨p, h3, sqT_pool hp e h4⟩⟩
theorem eqv_pl {l m : List V} (hl : ∀ v ∈ l, Pl v) (hm : ∀ v ∈ m, Pl v) : PyData.eqv (.tuple (l.map scD)) (.tuple (m.map scD)) = decide (l = m) := by
  by_cases e : l = m
  · subst e
    rw [decide_eq_true rfl]
    exact SeqAt.eqv_refl _ (lay_tup hl)
  · rw [decide_eq_false e]
    refine not_eqv fun z => e ?_
    rw [PyData.eqv] at z
    exact eqvAll_inj _ _ hl hm z
theorem s_nePl {p q : Addr} {l m : List V} (h1 : SqT K H p l) (h2 : SqT K H q m) (l1 : l.length ≤ 1000) (l2 : m.length ≤ 1000) (hl : ∀ v ∈ l, Pl v) (hm : ∀ v ∈ m, Pl v) (k : Q (.bl (!decide (l = m))) H) : rNeD K (.ref p) (.ref q) H Q := by
  have d1 := dd_tup1 (n := 0) h1 l1 (fun v hv => (hl v hv).sc)
  have d2 := dd_tup1 (n := 0) h2 l2 (fun v hv => (hm v hv).sc)
  refine ⟨_, _, Dd.dp _ _ _ d1, Dd.dp _ _ _ d2, Dd.shaped (by decide) d1, Dd.shaped (by decide) d2, ?_⟩
  rw [eqv_pl hl hm]
  exact k
theorem perm_map_inv {α : Type} (f : α → V) {xs ys : List V} (hp : ys.Perm xs) : ∀ {l : List α}, xs = l.map f → ∃ m : List α, m.Perm l ∧ ys = m.map f := by
  induction hp with
  | nil => exact fun {l} h => ⟨l, List.Perm.refl _, h⟩
  | cons x _ ih =>
    intro l h
    match l, h with
    | b :: l0, h =>
      obtain ⟨h1, h2⟩ := List.cons.inj h
      obtain ⟨m, m1, m2⟩ := ih h2
      exact ⟨b :: m, m1.cons b, by rw [m2, h1]; rfl⟩
  | swap x y l' =>
    intro l h
    match l, h with
    | b :: c :: l0, h =>
      obtain ⟨h1, h2⟩ := List.cons.inj h
      obtain ⟨h3, h4⟩ := List.cons.inj h2
      exact ⟨c :: b :: l0, List.Perm.swap b c l0, by rw [h1, h3, h4]; rfl⟩
  | trans _ _ ih1 ih2 =>
    intro l h
    obtain ⟨m, m1, m2⟩ := ih2 h
    obtain ⟨n, n1, n2⟩ := ih1 m2
    exact ⟨n, n1.trans m1, n2⟩
theorem flat_one : ∀ l : List Nat, (l.map fun c => [c]).flatten = l
  | [] => rfl
  | c :: l => by rw [List.map_cons, List.flatten_cons, flat_one l]; rfl
theorem pure_law_parts (h : sp_law_parts K vs H Q E) : t_law_parts K (E1 Q) (start ["_law_pool_here", "_law_model_here", "_law_line_here", "_law_ends", "_law_part", "_law_abc", "_law_lines"] vs) H := by
  obtain ⟨a, q, rfl, M, hq, m, hp, k⟩ := h
  show t_law_parts K (E1 Q) [some (.ref a), some (.ref q), none, none, none, none, none] H
  unfold t_law_parts
  have gs := good_srt m.g
  have l4 := m.g.ab.2.1
  have l6 := m.g.st.2.1
  walk_at "go"
  refine u_lineG hq m fun ln H1 e1 r1 => ?_
  have p1 := hp.ex e1 (by simp)
  obtain ⟨o, r, t, y, h1, h2, h3, h4, h5⟩ := id r1
  walk_at "go"
  obtain ⟨ts0, z1, z2, z3⟩ := id h4
  have zl : ts0.length = (tnsOf M).length := by rw [z2, List.length_map]; rfl
  have zn : (tnsOf M).length ≤ 6 := by unfold tnsOf; rw [List.length_map]; omega
  refine s_iTupA z1 ?_
  refine lc_run (walk_tup (xs := ts0)) (by omega) [a] (fun J => PoolAt J a) (fun i acc J => ∃ us : List Tn, Tups K J acc (us.map tnV) ∧ us.Sublist ((tnsOf M).take i) ∧ ∀ u ∈ (tnsOf M).take i, u ∉ us → (u.b, u.n) = (u.a, 0)) (fun z hz => by rw [List.mem_singleton.mp hz]; exact p1.there) p1 ⟨[], Tups.nil, by simp, by simp⟩ (fun J D o nD rr => rr.upd nD) (fun i acc J D o hd ⟨us, u1, u2, u3⟩ => ⟨us, u1.upd hd, u2, u3⟩) (fun J e => sqT_pool p1 e z1) ?_ ?_
  · rintro i acc x J J2 C1 C0 hi e pJ ⟨us, u1, u2, u3⟩ ⟨rfl, hx⟩ k1 k0
    have hti : i < (tnsOf M).length := by omega
    have htk : (tnsOf M).take (i + 1) = (tnsOf M).take i ++ [(tnsOf M)[i]] := by rw [List.take_add_one, List.getElem?_eq_getElem hti]; rfl
    obtain ⟨p, rfl, hpt⟩ := z3 i x (tnV (tnsOf M)[i]) hx (by show ((tnsOf M).map tnV)[i]? = _; rw [List.getElem?_map, List.getElem?_eq_getElem hti]; rfl)
    have hin : (tnsOf M)[i] ∈ tnsOf M := List.getElem_mem hti
    rw [htk] at k1 k0
    generalize (tnsOf M)[i] = tn at hpt hin k1 k0
    have hpt2 := sqT_pool p1 e hpt
    have pls : ∀ v ∈ tnV tn, Pl v := pl_tns m.g _ (List.mem_map.mpr ⟨tn, hin, rfl⟩)
    have kk1 : ∀ J5, Ex [a] J2 J5 → PoolAt J5 a → C1 (.ref p) J5 := fun J5 e5 p5 => k1 _ J5 e5 p5 ⟨us ++ [tn], by rw [List.map_append]; exact (u1.exP pJ e5).snoc (sqT_pool pJ e5 hpt2), u2.append (List.Sublist.refl _), fun u hu hn => by
      rcases List.mem_append.mp hu with h | h
      · exact u3 u h fun z => hn (List.mem_append_left _ z)
      · exact absurd (List.mem_append_right _ h) hn⟩
    have kk0 : ∀ J5, Ex [a] J2 J5 → PoolAt J5 a → (tn.b, tn.n) = (tn.a, (0 : Int)) → C0 J5 := fun J5 e5 p5 he => k0 J5 e5 p5 ⟨us, u1.exP pJ e5, u2.trans (List.sublist_append_left _ _), fun u hu hn => by
      rcases List.mem_append.mp hu with h | h
      · exact u3 u h hn
      · rw [List.mem_singleton.mp h]; exact he⟩
    refine ⟨wipe1 _ _ _, ?_⟩
    walk_at "go"
    refine s_slA hpt2 fun c1 J3 e3 s3 => ?_
    rw [show cutV (tnV tn) (some 1) none = [vS tn.b, .int tn.n] from cut_tail] at s3
    have hpt3 := e3.sqT (by simp) hpt2
    walk_at "go"
    rename_i c2 J4 nc2 e4 s4
    have e34 := e3.trans e4
    refine s_nePl (e4.sqT (by simp) s3) (SqT.of s4) (by simp) (by simp) (fun v hv => pls v (List.mem_cons_of_mem _ hv)) (fun v hv => ?_) ?_
    · simp only [List.mem_cons, List.not_mem_nil, or_false] at hv
      rcases hv with rfl | rfl
      · exact pls _ List.mem_cons_self
      · exact .inl ⟨_, rfl⟩
    by_cases he : [vS tn.b, V.int tn.n] = [vS tn.a, .int 0]
    · rw [decide_eq_true he]
      have he2 : (tn.b, tn.n) = (tn.a, (0 : Int)) := by
        obtain ⟨h1, h2⟩ := List.cons.inj he
        rw [S_inj (V.str.inj h1), V.int.inj (List.cons.inj h2).1]
      have pJ4 := pJ.ex e34 (by simp)
      walk_at "go"
      rename_i d J5 d0 d1 e5 p5
      have e35 : Ex [a] J2 J5 := e34.wide.trans e5
      refine s_2 (fun hd => ?_) (fun hd => ?_)
      · walk_at "go"
        exact kk1 J5 e35 p5
      · exact kk0 J5 e35 p5 he2
    · rw [decide_eq_false he]
      walk_at "go"
      exact kk1 J4 e34.wide (pJ.ex e34 (by simp))
  · rintro D J ys hD e pJ hd hl ⟨us, u1, u2, u3⟩
    rw [zl, List.take_length] at u2
    have u3 : ∀ u ∈ tnsOf M, u ∉ us → (u.b, u.n) = (u.a, (0 : Int)) := fun u hu => u3 u (by rw [zl, List.take_length]; exact hu)
    have tn6 : us.length ≤ 6 := Nat.le_trans u2.length_le zn
    walk_at "go"
    have r2 := r1.exP p1 e
    obtain ⟨o2, rr2, t2, y2, w1, w2, w3, w4, w5⟩ := id r2
    refine s_ixT w1 (by exact rfl) ?_
    walk_at "go"
    refine u_shufU (xs := (sgn M.ab).map fun c => vS [c]) (.inl ⟨sgn M.ab, rfl, rfl⟩) (by rw [List.length_map, (sgn_perm M.ab).length_eq]; omega) pJ fun ys1 q1 J1 perm1 nq1 ee1 pp1 hq1 => ?_
    obtain ⟨s, s1, rfl⟩ := perm_map_inv (fun c => vS [c]) perm1 rfl
    have sl : s.length ≤ 4 := by rw [s1.length_eq, (sgn_perm M.ab).length_eq]; omega
    refine s_join0 (ls := s.map fun c => [c]) (SqL.of (by rw [hq1, List.map_map]; rfl)) (by rw [flat_one]; exact Nat.le_trans sl (by decide)) ?_
    rw [flat_one]
    walk_at "go"
    have e01 := e.trans ee1
    obtain ⟨o3, rr3, t3, y3, v1, v2, v3, v4, v5⟩ := r1.exP p1 e01
    refine s_ixT v1 (by exact rfl) ?_
    walk_at "go"
    obtain ⟨xr, xr1, xr2, xr3⟩ := v3
    refine u_shufU (xs := xr) (.inr ⟨rr3, rfl, .inr xr1⟩) (by have := rws_len4 gs; rw [xr2, List.length_map]; omega) pp1 fun ys2 q2 J2 perm2 nq2 ee2 pp2 hq2 => ?_
    obtain ⟨rs, rs1, rs2⟩ := tups_perm rwV perm2 (Tups.exP pp1 ee2 ⟨xr2, xr3⟩)
    walk_at "go"
    refine s_tupOf (SqL.of hq2) fun lns J3 nu2 ee3 hu2 => ?_
    have pp3 := pp2.ex ee3 (by simp)
    have rs3 := rs2.ex0 ee3
    have e03 := e01.trans (ee2.trans ee3.wide)
    have eJ3 := ee1.trans (ee2.trans ee3.wide)
    walk_at "go"
    obtain ⟨o4, rr4, t4, y4, x1, x2, x3, x4, x5⟩ := r1.exP p1 e03
    refine s_ixT x1 (by exact rfl) ?_
    walk_at "go"
    have hDa : D ∉ [a] := by simp only [List.mem_singleton]; exact fun z => p1.there (z ▸ hD)
    refine u_shufU (xs := ys) (.inr ⟨D, rfl, .inl (SqL.of (eJ3.get hDa hd))⟩) (by rw [u1.1, List.length_map]; omega) pp3 fun ys3 q3 J4 perm3 nq3 ee4 pp4 hq3 => ?_
    obtain ⟨ts, ts1, ts2⟩ := tups_perm tnV perm3 (Tups.exP pJ (eJ3.trans ee4) u1)
    walk_at "go"
    refine s_tupOf (SqL.of hq3) fun ends J5 nu3 ee5 hu3 => ?_
    have pp5 := pp4.ex ee5 (by simp)
    have ts3 := ts2.ex0 ee5
    have e35 : Ex [a] J3 J5 := ee4.trans ee5.wide
    have e05 := e03.trans e35
    have rs4 := rs3.exP pp3 e35
    have hu2' := sqT_pool pp3 e35 (SqT.of (K := K) hu2)
    have x2' := sqT_pool pp3 e35 x2
    walk_at "go"
    obtain ⟨o5, rr5, t5, y5, a1, a2, a3, a4, a5⟩ := r1.exP p1 e05
    refine s_ixT a1 (by exact rfl) ?_
    walk_at "go"
    have okl : M.ok.length ≤ 6 := by rw [← m.f]; exact Nat.le_trans (List.length_filter_le _ _) l6
    refine u_shufU (xs := M.ok.map vS) (.inr ⟨y5, rfl, .inr a5⟩) (by rw [List.length_map]; omega) pp5 fun ys4 q4 J6 perm4 nq4 ee6 pp6 hq4 => ?_
    obtain ⟨yl, yl1, rfl⟩ := perm_map_inv vS perm4 rfl
    walk_at "go"
    refine s_tupOf (SqL.of hq4) fun oks J7 nu4 ee7 hu4 => ?_
    have pp7 := pp6.ex ee7 (by simp)
    have e57 : Ex [a] J5 J7 := ee6.trans ee7.wide
    have e07 := e05.trans e57
    walk_at "go"
    rename_i pr J8 npr ee8 hpr
    have e58 : Ex [a] J5 J8 := e57.trans ee8.wide
    have tnn : (tnsOf M).Nodup := List.Pairwise.of_map _ (fun a b h z => h (congrArg _ z)) (good_tns m.g).2
    refine k pr s rs ts yl J8 ((e1.wide.trans e07).trans ee8.wide) (pp7.ex ee8 (by simp)) ⟨s1.trans (sgn_perm M.ab), rs1, ⟨ts1.nodup_iff.mpr (tnn.sublist u2), fun t ht => u2.subset (ts1.mem_iff.mp ht), fun t ht hn => ?_⟩, yl1⟩ ⟨o4, lns, ends, oks, hpr, sqT_pool pp5 e58 x2', TupsAt.mk (sqT_pool pp5 e58 hu2') (rs4.exP pp5 e58), TupsAt.mk (sqT_pool pp5 e58 (SqT.of hu3)) (ts3.exP pp5 e58), ee8.sqT (by simp) (SqT.of hu4)⟩
    exact u3 t ht fun z => hn (ts1.mem_iff.mpr z)
theorem Tups.set {xs : List V} {ls : List (List V)} {i : Nat} {p : Addr} {l : List V} (h : Tups K H xs ls) (hp : SqT K H p l) : Tups K H (xs.set i (.ref p)) (ls.set i l) := ⟨by simp [h.1], fun j x m h1 h2 => by
  by_cases hj : i = j
  · subst hj
    have hl : i < xs.length := by have := (List.getElem?_eq_some_iff.mp h1).1; simpa using this
    rw [List.getElem?_set_self hl] at h1
    rw [List.getElem?_set_self (by rw [← h.1]; exact hl)] at h2
    cases h1; cases h2
    exact ⟨p, rfl, hp⟩
  · rw [List.getElem?_set_ne hj] at h1 h2
    exact h.2 j x m h1 h2⟩
end
end WB
namespace WB
open PySem PySem.Spec PyProof.Rows L2
local macro_rules | `(tactic| walk_at "lit") => `(tactic| first | exact lit_abc | exact lit_empty)
local macro_rules | `(tactic| walk_at "nm") => `(tactic| focus first | exact List.not_mem_nil | (simp only [List.mem_singleton]; first | assumption | (exact Ne.symm (by assumption)) | (intro hz; subst hz; simp_all; done)))
local macro_rules | `(tactic| walk_at "hp") => `(tactic| first | assumption | (apply Ex.get0 (by assumption); walk_at "hp") | (apply Ex.get (by assumption); (walk_at "nm"); (walk_at "hp")))
local macro_rules | `(tactic| walk_at "sq") => `(tactic| first | assumption | (apply SqL.of; walk_at "hp") | (apply Ex.sqL (by assumption); (walk_at "nm"); (walk_at "sq")))
local macro_rules | `(tactic| walk_at "sqt") => `(tactic| first | assumption | (apply SqT.of; walk_at "hp") | (apply Ex.sqT (by assumption); (walk_at "nm"); (walk_at "sqt")))
local macro_rules | `(tactic| walk_at "sz") => `(tactic| focus ((with_reducible refine Nat.le_trans (m := 100000) ?_ (by decide)); first | omega | (simp; done) | (simp; omega)))
local macro_rules | `(tactic| walk_at "mul") => `(tactic| first | exact Or.inr ⟨by omega, by omega⟩ | exact Or.inl ⟨by omega, by omega⟩)
local macro_rules | `(tactic| walk_at "pool") => `(tactic| first | assumption | (apply PoolAt.ex (by assumption); (walk_at "nm"); (walk_at "pool")))
local macro_rules | `(tactic| walk_at "ring") => `(tactic| first | assumption | (apply RingAt.ex (by assumption); (walk_at "nm"); (walk_at "ring")))
local macro_rules | `(tactic| walk_at "st") => `(tactic| first
  | with_reducible refine s_seq ?_
  | with_reducible refine s_asg ?_
  | with_reducible refine s_gName ?_
  | with_reducible refine s_ret ?_
  | with_reducible refine s_ifS ?_
  | with_reducible refine s_next ?_
  | with_reducible refine s_op ?_
  | ((with_reducible apply s_var); exact rfl)
  | ((with_reducible apply s_cS); (walk_at "lit"))
  | with_reducible refine s_c ?_
  | with_reducible refine s_cb ?_
  | with_reducible refine s_cons ?_
  | with_reducible refine s_nil ?_
  | with_reducible refine s_un ?_
  | with_reducible refine s_call ?_
  | with_reducible refine s_test ?_
  | with_reducible refine s_tB ?_
  | with_reducible refine s_blQ ?_
  | with_reducible refine s_not ?_
  | with_reducible refine s_and ?_
  | with_reducible refine s_or ?_
  | with_reducible refine s_andV ?_
  | with_reducible refine s_orV ?_
  | with_reducible refine s_notV ?_
  | with_reducible refine s_ifE ?_
  | with_reducible refine s_chain ?_
  | ((with_reducible refine s_T ?_ ?_); (with_reducible exact rfl))
  | with_reducible refine s_nT ?_
  | with_reducible refine s_nF ?_
  | ((with_reducible refine s_F ?_ ?_); (with_reducible exact rfl))
  | ((with_reducible refine s_T ?_ ?_); assumption)
  | ((with_reducible refine s_F ?_ ?_); assumption)
  | ((with_reducible refine s_nB ?_ ?_); assumption)
  | ((with_reducible refine s_nA ?_ ?_); assumption)
  | ((with_reducible refine s_Td ?_ ?_); omega)
  | ((with_reducible refine s_Fd ?_ ?_); omega)
  | ((with_reducible refine s_nTd ?_ ?_); omega)
  | ((with_reducible refine s_nFd ?_ ?_); omega)
  | with_reducible refine s_sfld ?_
  | with_reducible refine s_addI ?_
  | with_reducible refine s_subI ?_
  | ((with_reducible refine s_mulI ?_ ?_); (walk_at "mul"))
  | ((with_reducible refine s_divI ?_ ?_); exact ⟨by omega, by omega⟩)
  | ((with_reducible refine s_modI ?_ ?_); omega)
  | ((with_reducible refine s_powI ?_ ?_); exact ⟨by decide, by decide, by decide⟩)
  | with_reducible refine s_ltI ?_
  | with_reducible refine s_leI ?_
  | with_reducible refine s_gtI ?_
  | with_reducible refine s_geI ?_
  | with_reducible refine s_negI ?_
  | with_reducible refine s_absI ?_
  | with_reducible refine s_intI ?_
  | with_reducible refine s_min2 ?_
  | with_reducible refine s_max2 ?_
  | with_reducible refine s_eqI ?_
  | with_reducible refine s_neI ?_
  | with_reducible refine s_eqS ?_
  | with_reducible refine s_neS ?_
  | with_reducible refine s_inSg ?_
  | with_reducible refine s_notInSg ?_
  | ((with_reducible refine s_addS ?_ ?_); (walk_at "sz"))
  | ((with_reducible refine s_lenS ?_ ?_); (walk_at "sz"))
  | ((with_reducible apply s_lenL); (walk_at "sq"))
  | ((with_reducible apply s_lenT); (walk_at "sqt"))
  | ((with_reducible apply s_ixL); (walk_at "sq"); exact rfl)
  | ((with_reducible apply s_ixT); (walk_at "sqt"); exact rfl)
  | with_reducible refine s_gSub ?_
  | ((with_reducible apply s_setL); (walk_at "hp"); (exact rfl); (intro _ _ _))
  | ((with_reducible refine s_alloc ?_ ?_); (walk_at "sz"); (intro _ _ _ _ _))
  | ((with_reducible refine s_divmod ?_ ?_); (exact ⟨by omega, PyProof.noPylong_small (by omega)⟩); (intro _ _ _ _ _))
  | ((with_reducible apply s_gTup); (walk_at "sqt"); (exact rfl))
  | ((with_reducible apply s_gLst); (walk_at "sq"); (exact rfl))
  | with_reducible refine s_gCons ?_
  | with_reducible refine s_gNil ?_
  | with_reducible refine s_lc ?_
  | ((with_reducible apply s_cat); (walk_at "hp"); (walk_at "hp"); (walk_at "sz"); (intro _ _ _ _ _))
  | ((with_reducible apply s_slL); (walk_at "sq"); (intro _ _ _ _ _))
  | with_reducible refine s_for ?_
  | with_reducible refine s_rng1 ?_
  | ((with_reducible refine s_rng1i ?_ ?_); (constructor <;> omega))
  | with_reducible refine s_rng2 ?_
  | ((with_reducible refine s_rng2i ?_ ?_); (refine ⟨?_, ?_, ?_, ?_⟩ <;> omega))
  | with_reducible refine s_iStr ?_
  | with_reducible refine s_iStrS ?_
  | with_reducible refine s_iList ?_
  | ((with_reducible apply s_iListA); (walk_at "sq"))
  | with_reducible refine s_iTup ?_
  | ((with_reducible apply s_iTupA); (walk_at "sqt"))
  | with_reducible refine s_sl ?_
  | with_reducible refine s_noPart ?_
  | with_reducible refine s_part ?_
  | with_reducible refine s_int1 ?_
  | ((with_reducible refine s_slS ?_ ?_); (walk_at "sz"))
  | with_reducible refine s_tup ?_
  | with_reducible refine s_lst ?_
  | with_reducible refine s_par ?_
  | with_reducible refine s_pair ?_
  | with_reducible refine s_M1 ?_
  | with_reducible refine s_isStr ?_
  | with_reducible refine s_revS ?_
  | ((with_reducible refine s_revS1 ?_ ?_); (walk_at "sz"))
  | with_reducible refine s_fldE ?_
  | with_reducible refine s_propE ?_
  | ((with_reducible refine u_draw ?_ ?_ ?_ ?_); omega; omega; (walk_at "pool"); (intro _ _ _ _ _ _))
  | ((with_reducible refine u_pool ?_); (intro _ _ _ _ _))
  | with_reducible refine u_is_integer ?_
  | with_reducible refine s_isiII ?_
  | with_reducible refine s_isiIB ?_
  | with_reducible refine s_isiSS ?_
  | ((with_reducible apply u_fldRing); assumption; (walk_at "ring"))
  | ((with_reducible apply u_textP); (walk_at "ring"))
  | ((with_reducible apply u_strRing); (walk_at "ring"))
  | ((with_reducible apply u_eqRing); (walk_at "ring"); (walk_at "ring"))
  | ((with_reducible apply u_isiRing); assumption; (walk_at "ring"))
  | ((with_reducible refine u_is_word ?_ ?_); omega; (intro _ _))
  | ((with_reducible refine u_turnings ?_ ?_); omega; (intro _ _ _ _ _))
  | with_reducible refine s_makeE ?_
  | with_reducible refine s_methE ?_)
local macro_rules | `(tactic| walk_at "go") => `(tactic| repeat (walk_at "st"))
local macro_rules | `(tactic| walk_at "exs") => `(tactic| first | exact Ex.rfl | assumption | (apply Ex.snoc (by assumption); walk_at "exs") | (apply Ex.snocW (by assumption); walk_at "exs"))
local macro_rules | `(tactic| walk_at "kind") => `(tactic| first | assumption | (apply KindAt.ex0 (by assumption); (walk_at "kind")) | (apply KindAt.exP (by assumption) (by assumption); (walk_at "kind")))
local macro_rules | `(tactic| walk_at "st") => `(tactic| first
  | with_reducible refine s_lenSet ?_
  | with_reducible refine s_drop ?_
  | with_reducible refine s_bm ?_
  | with_reducible refine s_notN ?_
  | with_reducible refine s_isN ?_
  | ((with_reducible apply s_tyL); (walk_at "hp"))
  | with_reducible refine s_enumT ?_
  | ((with_reducible apply s_enumTA); (walk_at "sqt"))
  | with_reducible refine s_lc2 ?_)
def t_law_is_word (K : PySem.W.Frag) : TS :=
  (tSeq (tIfS (tOr (tNot (tB (tCB (rIsi K) (tCons (tVar 0) (tCons (tC (.ty "str")) tNil))))) (tOr (tTest (tOp rEq (tVar 0) (tC (.str "")))) (tTest (tOp rGtI (tCB (rLenV K) (tCons (tVar 0) tNil)) (tC (.int 600)))))) (tRet (tC (.bl false))) tNext)
  (tRet (tOp (rEqD K) (tLc (iStr (tVar 0)) (gName 2) (tTest (tOp rNotInSg (tVar 2) (tVar 1))) (tVar 2) [2]) (tLst tNil))))
section
variable {K : PySem.W.Frag} {vs : List V} {H : Hp} {Q : VK} {E : XK}
theorem pure_law_is_word (h : sp_law_is_word K vs H Q E) : t_law_is_word K (E1 Q) (start ["_law_thing", "_law_abc", "_law_mark"] vs) H := by
  obtain ⟨v, s, rfl, h⟩ := h
  show t_law_is_word K (E1 Q) [some v, some (vS s), none] H
  unfold t_law_is_word
  rcases h with ⟨l, rfl, hl, hpl, k⟩ | ⟨n, hk, hn, k⟩
  rotate_left
  · walk_at "go"
    refine s_isiK hk (b := false) (kitB_str hk.2 hn) ?_
    walk_at "go"
    exact k
  walk_at "go"
  refine s_2 (fun hb => ?_) (fun hb => ?_)
  · have hb := of_decide_eq_true hb
    walk_at "go"
    subst hb
    exact k _ Ex.rfl
  walk_at "go"
  have hb := of_decide_eq_false hb
  refine s_2 (fun hb2 => ?_) (fun hb2 => ?_)
  · have hb2 := of_decide_eq_true hb2
    walk_at "go"
    have e : isWord l s = false := by
      unfold isWord
      rw [decide_eq_false (by omega)]
      rfl
    rw [← e]
    exact k _ Ex.rfl
  have hb2 := of_decide_eq_false hb2
  walk_at "go"
  refine lc_mapS (by omega) (fun c => !decide (c ∈ s)) (fun c => vS [c]) (fun c H1 C1 C0 hc e1 k1 k0 => ?_) (fun D H1 hD e1 hd => ?_)
  · walk_at "go"
    refine s_2 (fun hb => ?_) (fun hb => ?_)
    · walk_at "go"
      exact k1 _ Ex.rfl hb
    · exact k0 _ Ex.rfl hb
  walk_at "go"
  rename_i p2 H2 n2 e2 h2
  refine s_eqLSnil (ls := (l.filter fun c => !decide (c ∈ s)).map fun c => [c]) (by rw [List.map_map]; exact SqL.of (e2.get0 hd)) (SqL.of h2) ?_ ?_
  · intro m hm
    obtain ⟨c, hc, rfl⟩ := List.mem_map.mp hm
    intro x hx
    rw [List.mem_singleton.mp hx]
    exact hpl c (List.mem_filter.mp hc).1
  · have e : ((l.filter fun c => !decide (c ∈ s)).map fun c => [c]).isEmpty = isWord l s := by
      unfold isWord
      rw [decide_eq_true ⟨by have : l.length ≠ 0 := fun z => hb (List.length_eq_zero_iff.mp z); omega, by omega⟩, Bool.true_and, List.isEmpty_map, Bool.eq_iff_iff, List.isEmpty_iff, List.filter_eq_nil_iff, List.all_eq_true]
      constructor
      · intro h c hc
        have := h c hc
        simpa using this
      · intro h c hc
        have := h c hc
        simpa using this
    rw [e]
    exact k _ (e1.trans e2)
end
end WB
namespace WB
open PySem PySem.Spec PyProof.Rows L2 LamX
theorem lit14_97 : ("a" : Str) = S [97] := by decide +kernel
theorem lit14_98_50 : ("b2" : Str) = S [98, 50] := by decide +kernel
theorem lit14_99 : ("c" : Str) = S [99] := by decide +kernel
theorem lit14_100 : ("d" : Str) = S [100] := by decide +kernel
theorem lit14_101 : ("e" : Str) = S [101] := by decide +kernel
theorem lit14_108_111_110_103_110_97_109_101 : ("longname" : Str) = S [108, 111, 110, 103, 110, 97, 109, 101] := by decide +kernel
theorem lit14_103 : ("g" : Str) = S [103] := by decide +kernel
theorem lit14_120 : ("x" : Str) = S [120] := by decide +kernel
theorem lit14_90 : ("Z" : Str) = S [90] := by decide +kernel
theorem lit14_108_111_110_103_110_97_109_101_115 : ("longnames" : Str) = S [108, 111, 110, 103, 110, 97, 109, 101, 115] := by decide +kernel
local macro_rules | `(tactic| walk_at "lit") => `(tactic| first | exact lit14_97 | exact lit14_98_50 | exact lit14_99 | exact lit14_100 | exact lit14_101 | exact lit14_108_111_110_103_110_97_109_101 | exact lit14_103 | exact lit14_120 | exact lit14_90 | exact lit14_108_111_110_103_110_97_109_101_115)
local macro_rules | `(tactic| walk_at "lit") => `(tactic| first | exact lit_abc | exact lit_empty)
local macro_rules | `(tactic| walk_at "nm") => `(tactic| focus first | exact List.not_mem_nil | (simp only [List.mem_singleton]; first | assumption | (exact Ne.symm (by assumption)) | (intro hz; subst hz; simp_all; done)))
local macro_rules | `(tactic| walk_at "hp") => `(tactic| first | assumption | (apply Ex.get0 (by assumption); walk_at "hp") | (apply Ex.get (by assumption); (walk_at "nm"); (walk_at "hp")))
local macro_rules | `(tactic| walk_at "sq") => `(tactic| first | assumption | (apply SqL.of; walk_at "hp") | (apply Ex.sqL (by assumption); (walk_at "nm"); (walk_at "sq")))
local macro_rules | `(tactic| walk_at "sqt") => `(tactic| first | assumption | (apply SqT.of; walk_at "hp") | (apply Ex.sqT (by assumption); (walk_at "nm"); (walk_at "sqt")))
local macro_rules | `(tactic| walk_at "sz") => `(tactic| focus ((with_reducible refine Nat.le_trans (m := 100000) ?_ (by decide)); first | omega | (simp; done) | (simp; omega)))
local macro_rules | `(tactic| walk_at "mul") => `(tactic| first | exact Or.inr ⟨by omega, by omega⟩ | exact Or.inl ⟨by omega, by omega⟩)
local macro_rules | `(tactic| walk_at "pool") => `(tactic| first | assumption | (apply PoolAt.ex (by assumption); (walk_at "nm"); (walk_at "pool")))
local macro_rules | `(tactic| walk_at "ring") => `(tactic| first | assumption | (apply RingAt.ex (by assumption); (walk_at "nm"); (walk_at "ring")))
local macro_rules | `(tactic| walk_at "st") => `(tactic| first
  | with_reducible refine s_seq ?_
  | with_reducible refine s_asg ?_
  | with_reducible refine s_gName ?_
  | with_reducible refine s_ret ?_
  | with_reducible refine s_ifS ?_
  | with_reducible refine s_next ?_
  | with_reducible refine s_op ?_
  | ((with_reducible apply s_var); exact rfl)
  | ((with_reducible apply s_cS); (walk_at "lit"))
  | with_reducible refine s_c ?_
  | with_reducible refine s_cb ?_
  | with_reducible refine s_cons ?_
  | with_reducible refine s_nil ?_
  | with_reducible refine s_un ?_
  | with_reducible refine s_call ?_
  | with_reducible refine s_test ?_
  | with_reducible refine s_tB ?_
  | with_reducible refine s_blQ ?_
  | with_reducible refine s_not ?_
  | with_reducible refine s_and ?_
  | with_reducible refine s_or ?_
  | with_reducible refine s_andV ?_
  | with_reducible refine s_orV ?_
  | with_reducible refine s_notV ?_
  | with_reducible refine s_ifE ?_
  | with_reducible refine s_chain ?_
  | ((with_reducible refine s_T ?_ ?_); (with_reducible exact rfl))
  | with_reducible refine s_nT ?_
  | with_reducible refine s_nF ?_
  | ((with_reducible refine s_F ?_ ?_); (with_reducible exact rfl))
  | ((with_reducible refine s_T ?_ ?_); assumption)
  | ((with_reducible refine s_F ?_ ?_); assumption)
  | ((with_reducible refine s_nB ?_ ?_); assumption)
  | ((with_reducible refine s_nA ?_ ?_); assumption)
  | ((with_reducible refine s_Td ?_ ?_); omega)
  | ((with_reducible refine s_Fd ?_ ?_); omega)
  | ((with_reducible refine s_nTd ?_ ?_); omega)
  | ((with_reducible refine s_nFd ?_ ?_); omega)
  | with_reducible refine s_sfld ?_
  | with_reducible refine s_addI ?_
  | with_reducible refine s_subI ?_
  | ((with_reducible refine s_mulI ?_ ?_); (walk_at "mul"))
  | ((with_reducible refine s_divI ?_ ?_); exact ⟨by omega, by omega⟩)
  | ((with_reducible refine s_modI ?_ ?_); omega)
  | ((with_reducible refine s_powI ?_ ?_); exact ⟨by decide, by decide, by decide⟩)
  | with_reducible refine s_ltI ?_
  | with_reducible refine s_leI ?_
  | with_reducible refine s_gtI ?_
  | with_reducible refine s_geI ?_
  | with_reducible refine s_negI ?_
  | with_reducible refine s_absI ?_
  | with_reducible refine s_intI ?_
  | with_reducible refine s_min2 ?_
  | with_reducible refine s_max2 ?_
  | with_reducible refine s_eqI ?_
  | with_reducible refine s_neI ?_
  | with_reducible refine s_eqS ?_
  | with_reducible refine s_neS ?_
  | with_reducible refine s_inSg ?_
  | with_reducible refine s_notInSg ?_
  | ((with_reducible refine s_addS ?_ ?_); (walk_at "sz"))
  | ((with_reducible refine s_lenS ?_ ?_); (walk_at "sz"))
  | ((with_reducible apply s_lenL); (walk_at "sq"))
  | ((with_reducible apply s_lenT); (walk_at "sqt"))
  | ((with_reducible apply s_ixL); (walk_at "sq"); exact rfl)
  | ((with_reducible apply s_ixT); (walk_at "sqt"); exact rfl)
  | with_reducible refine s_gSub ?_
  | ((with_reducible apply s_setL); (walk_at "hp"); (exact rfl); (intro _ _ _))
  | ((with_reducible refine s_alloc ?_ ?_); (walk_at "sz"); (intro _ _ _ _ _))
  | ((with_reducible refine s_divmod ?_ ?_); (exact ⟨by omega, PyProof.noPylong_small (by omega)⟩); (intro _ _ _ _ _))
  | ((with_reducible apply s_gTup); (walk_at "sqt"); (exact rfl))
  | ((with_reducible apply s_gLst); (walk_at "sq"); (exact rfl))
  | with_reducible refine s_gCons ?_
  | with_reducible refine s_gNil ?_
  | with_reducible refine s_lc ?_
  | ((with_reducible apply s_cat); (walk_at "hp"); (walk_at "hp"); (walk_at "sz"); (intro _ _ _ _ _))
  | ((with_reducible apply s_slL); (walk_at "sq"); (intro _ _ _ _ _))
  | with_reducible refine s_for ?_
  | with_reducible refine s_rng1 ?_
  | ((with_reducible refine s_rng1i ?_ ?_); (constructor <;> omega))
  | with_reducible refine s_rng2 ?_
  | ((with_reducible refine s_rng2i ?_ ?_); (refine ⟨?_, ?_, ?_, ?_⟩ <;> omega))
  | with_reducible refine s_iStr ?_
  | with_reducible refine s_iStrS ?_
  | with_reducible refine s_iList ?_
  | ((with_reducible apply s_iListA); (walk_at "sq"))
  | with_reducible refine s_iTup ?_
  | ((with_reducible apply s_iTupA); (walk_at "sqt"))
  | with_reducible refine s_sl ?_
  | with_reducible refine s_noPart ?_
  | with_reducible refine s_part ?_
  | with_reducible refine s_int1 ?_
  | ((with_reducible refine s_slS ?_ ?_); (walk_at "sz"))
  | with_reducible refine s_tup ?_
  | with_reducible refine s_lst ?_
  | with_reducible refine s_par ?_
  | with_reducible refine s_pair ?_
  | with_reducible refine s_M1 ?_
  | with_reducible refine s_isStr ?_
  | with_reducible refine s_revS ?_
  | ((with_reducible refine s_revS1 ?_ ?_); (walk_at "sz"))
  | with_reducible refine s_fldE ?_
  | with_reducible refine s_propE ?_
  | ((with_reducible refine u_draw ?_ ?_ ?_ ?_); omega; omega; (walk_at "pool"); (intro _ _ _ _ _ _))
  | ((with_reducible refine u_pool ?_); (intro _ _ _ _ _))
  | with_reducible refine u_is_integer ?_
  | with_reducible refine s_isiII ?_
  | with_reducible refine s_isiIB ?_
  | with_reducible refine s_isiSS ?_
  | ((with_reducible apply u_fldRing); assumption; (walk_at "ring"))
  | ((with_reducible apply u_textP); (walk_at "ring"))
  | ((with_reducible apply u_strRing); (walk_at "ring"))
  | ((with_reducible apply u_eqRing); (walk_at "ring"); (walk_at "ring"))
  | ((with_reducible apply u_isiRing); assumption; (walk_at "ring"))
  | ((with_reducible refine u_is_word ?_ ?_); omega; (intro _ _))
  | ((with_reducible refine u_turnings ?_ ?_); omega; (intro _ _ _ _ _))
  | with_reducible refine s_makeE ?_
  | with_reducible refine s_methE ?_)
local macro_rules | `(tactic| walk_at "go") => `(tactic| repeat (walk_at "st"))
local macro_rules | `(tactic| walk_at "exs") => `(tactic| first | exact Ex.rfl | assumption | (apply Ex.snoc (by assumption); walk_at "exs") | (apply Ex.snocW (by assumption); walk_at "exs"))
local macro_rules | `(tactic| walk_at "kind") => `(tactic| first | assumption | (apply KindAt.ex0 (by assumption); (walk_at "kind")) | (apply KindAt.exP (by assumption) (by assumption); (walk_at "kind")))
local macro_rules | `(tactic| walk_at "st") => `(tactic| first
  | with_reducible refine s_lenSet ?_
  | with_reducible refine s_drop ?_
  | with_reducible refine s_bm ?_
  | with_reducible refine s_notN ?_
  | with_reducible refine s_isN ?_
  | ((with_reducible apply s_tyL); (walk_at "hp"))
  | with_reducible refine s_enumT ?_
  | ((with_reducible apply s_enumTA); (walk_at "sqt"))
  | with_reducible refine s_lc2 ?_)
local macro_rules | `(tactic| walk_at "lit") => `(tactic| exact lit_MRK)
local macro_rules | `(tactic| walk_at "st") => `(tactic| first
  | with_reducible refine s_dcT ?_
  | with_reducible refine s_dc ?_)
local macro_rules | `(tactic| walk_at "lit") => `(tactic| exact lit_z)
def t_law_right14 (K : PySem.W.Frag) : TS :=
  (tSeq (tFor (iRng1 (tCons (tC (.int 4)) tNil)) (gName 1) (tSeq (tAsg (tCall (sp_law_model K) [] E0 (tCons (tVar 0) (tCons (tCall (sp_law_signs K) [] E0 (tCons (tVar 0) (tCons (tC (.int 4)) tNil))) (tCons (tC (.int 6)) (tCons (tC (.bl false)) tNil))))) (gName 2))
  (tSeq (tAsg (tCall (sp_law_parts K) [] E0 (tCons (tVar 0) (tCons (tVar 2) tNil))) (gName 3))
  (tSeq (tAsg (tCall (sp_law_draw K) [] E0 (tCons (tVar 0) (tCons (tC (.int 8)) tNil))) (gName 4))
  (tSeq (tIfS (tTest (tOp rLtI (tVar 4) (tC (.int 5)))) (tAsg (tCall (sp_law_spoilt K) [] E0 (tCons (tVar 0) (tCons (tVar 3) (tCons (tVar 4) tNil)))) (gName 3)) tNext)
  (tSeq (tIfS (tTest (tOp (rIn K false) (tVar 4) (tLst (tCons (tC (.int 5)) (tCons (tC (.int 6)) tNil))))) (tSeq (tAsg (tTup (tCons (tCall (sp_law_draw K) [] E0 (tCons (tVar 0) (tCons (tC (.int 5)) tNil))) (tCons (tCall (sp_law_draw K) [] E0 (tCons (tVar 0) (tCons (tC (.int 5)) tNil))) tNil))) (gTup K 2 (gCons (gName 6) (gCons (gName 7) gNil))))
  (tSeq (tAsg (tCall (sp_law_spoilt K) [] E0 (tCons (tVar 0) (tCons (tVar 3) (tCons (tVar 6) tNil)))) (gName 5))
  (tAsg (tLc (iRng1 (tCons (tC (.int 5)) tNil)) (gName 8) tYes (tIf (tTest (tOp rEq (tVar 8) (tVar 7))) (tOp (rIxL K) (tCall (sp_law_spoilt K) [] E0 (tCons (tVar 0) (tCons (tVar 3) (tCons (tVar 7) tNil)))) (tVar 8)) (tOp (rIxL K) (tVar 5) (tVar 8))) [8]) (gName 3)))) tNext)
  (tIfS (tNot (tB (tCall (sp_law_parts_right K) [] E0 (tCons (tVar 3) tNil)))) (tRet (tC (.bl false))) tNext)))))))
  (tRet (tC (.bl true))))
def t_law_at_the_limit (K : PySem.W.Frag) : TS :=
  (tSeq (tAsg (tTup (tCons (tC (.str "a")) (tCons (tC (.str "b2")) (tCons (tC (.str "c")) (tCons (tC (.str "d")) (tCons (tC (.str "e")) (tCons (tC (.str "longname")) (tCons (tC (.str "g")) tNil)))))))) (gName 0))
  (tSeq (tAsg (tCB (rTupOf K) (tCons (tLc (iTup K (tVar 0)) (gName 2) tYes (tTup (tCons (tVar 2) (tCons (tC (.str "x")) (tCons (tVar 2) (tCons (tC (.int 0)) tNil))))) [2]) tNil)) (gName 1))
  (tSeq (tIfS (tOr (tNot (tB (tCall (sp_law_parts_right K) [] E0 (tCons (tLst (tCons (tC (.str "x")) (tCons (tSl (rSlA K) (tVar 0) tNoPart (tPart (tC (.int 6)))) (tCons (tSl (rSlA K) (tVar 1) tNoPart (tPart (tC (.int 6)))) (tCons (tTup tNil) (tCons (tTup tNil) tNil)))))) tNil)))) (tNot (tB (tCall (sp_law_parts_right K) [] E0 (tCons (tLst (tCons (tC (.str "x")) (tCons (tVar 0) (tCons (tVar 1) (tCons (tTup tNil) (tCons (tTup tNil) tNil)))))) tNil))))) (tRet (tC (.bl false))) tNext)
  (tSeq (tAsg (tLst (tCons (tOp (rCatA K) (tOp (rCatA K) (tSl (rSlA K) (tVar 0) tNoPart (tPart (tC (.int 3)))) (tTup (tCons (tC (.str "a")) tNil))) (tSl (rSlA K) (tVar 0) (tPart (tC (.int 3))) tNoPart)) (tCons (tOp (rCatA K) (tSl (rSlA K) (tVar 0) tNoPart (tPart (tC (.int 6)))) (tTup (tCons (tC (.str "Z")) tNil))) (tCons (tOp (rCatA K) (tSl (rSlA K) (tVar 0) tNoPart (tPart (tC (.int 5)))) (tTup (tCons (tC (.str "longnames")) (tCons (tC (.str "g")) tNil)))) (tCons (tTup tNil) tNil))))) (gName 3))
  (tRet (tCB (rAll K) (tCons (tLc (iList K (tVar 3)) (gName 4) tYes (tCall (sp_law_parts_right K) [] E0 (tCons (tLst (tCons (tC (.str "x")) (tCons (tVar 4) (tCons (tVar 1) (tCons (tTup tNil) (tCons (tTup tNil) tNil)))))) tNil)) [4]) tNil)))))))
def t_law14 (K : PySem.W.Frag) : TS :=
  (tSeq (tIfS (tNot (tB (tCall (sp_law_at_the_limit K) [] E0 tNil))) (tRet (tC (.bl false))) tNext)
  (tRet (tCB (rAll K) (tCons (tLc (iRng1 (tCons (tCB rMax2 (tCons (tC (.int 2)) (tCons (tCB rMin2 (tCons (tCB (rLenV K) (tCons (tVar 0) tNil)) (tCons (tC (.int 6)) tNil))) tNil))) tNil)) (gName 1) tYes (tCall (sp_law_right14 K) [] E0 (tCons (tCall (sp_law_pool K) [] E0 (tCons (tCall (sp_law_cell K) [] E0 (tCons (tVar 0) (tCons (tVar 1) tNil))) tNil)) tNil)) [1]) tNil))))
section
variable {K : PySem.W.Frag} {vs : List V} {H H' : Hp} {Q : VK} {E : XK} {a q r : Addr} {m : List Addr} {v : V} {xs : List V}
theorem u_parts_right {p : Addr} (hp : H p = some (.lst xs)) (N : PtN K m H xs) (hT : Tabs (tabs14 K) H) (k : ∀ H', ExN [] H H' → Tabs (tabs14 K) H' → Q (.bl true) H') : sp_law_parts_right K ([.ref p] ++ []) H Q E := by
  obtain ⟨v0, v1, v2, v3, v4, dv, d1, d2, d3, d4, rfl, P⟩ := (N.less (m := []) (by simp)).all
  exact ⟨p, rfl, v0, v1, v2, v3, v4, dv, d1, d2, d3, d4, hp, P, hT, k⟩
theorem pool_exN (hp : PoolAt H a) (e : ExN [] H H') : PoolAt H' a := by
  obtain ⟨x, y, z, hp⟩ := hp
  exact ⟨x, y, z, e _ _ (by simp) hp fun _ z => by cases z⟩
theorem PtI.fresh {D : Addr} {G : Hp} {k : Nat} (hD : H D = none) (e : ExN [a] H G) (h : PtI K [a] H k v) : PtI K [D, a] G k v := by
  have f : ∀ {H'}, ExN [D, a] G H' → ExN [a] H H' := fun e2 b o n hb z => e2 b o (fun w => by
    rcases List.mem_cons.mp w with w | w
    · rw [w, hD] at hb; cases hb
    · exact n w) (e b o n hb z) z
  match k, h with
  | 0, ⟨dv, h1, h2⟩ => exact ⟨dv, fun H2 e2 => h1 H2 (f e2), fun H2 e2 => h2 H2 (f e2)⟩
  | 1, ⟨d, h1, h2⟩ => exact ⟨d, fun H2 e2 => h1 H2 (f e2), h2⟩
  | 2, ⟨d, h1⟩ => exact ⟨d, fun H2 e2 => h1 H2 (f e2)⟩
  | 3, ⟨d, h1⟩ => exact ⟨d, fun H2 e2 => h1 H2 (f e2)⟩
  | _ + 4, ⟨d, h1⟩ => exact ⟨d, fun H2 e2 => h1 H2 (f e2)⟩
theorem pure_law_right14 (h : sp_law_right14 K vs H Q E) : t_law_right14 K (E1 Q) (start ["_law_pool_here", "_law_turn", "_law_model_here", "_law_parts_here", "_law_way", "_law_twice", "_law_near", "_law_far", "_law_k"] vs) H := by
  obtain ⟨a, rfl, hp, hT, k⟩ := h
  show t_law_right14 K (E1 Q) [some (.ref a), none, none, none, none, none, none, none, none] H
  unfold t_law_right14
  have gS : ∀ {l : List Nat}, l ≠ [] → (l.length : Int) ≤ 4 → (∀ c ∈ l, c ∈ LET) → l.Nodup → goodS l := fun h1 h2 h3 h4 => ⟨isWord_mk (List.length_pos_iff.mpr h1) (by omega) h3, by omega, h4⟩
  walk_at "go"
  refine for_run walk_range (fun i σ G => ∃ x1 x2 x3 x4 x5 x6 x7 x8, σ = [some (.ref a), x1, x2, x3, x4, x5, x6, x7, x8] ∧ ExN [a] H G ∧ PoolAt G a ∧ Tabs (tabs14 K) G) ⟨_, _, _, _, _, _, _, _, rfl, ExN.refl, hp, hT⟩ (fun _ _ _ _ _ => trivial) ?_ ?_
  · rintro i y σ G G1 hi ⟨x1, x2, x3, x4, x5, x6, x7, x8, rfl, e0, p0, t0⟩ ⟨rfl, rfl⟩
    clear hp hT
    refine s_gName ?_
    refine s_seq (s_asg (s_call (s_cons (s_var (v := .ref a) rfl (s_cons (s_call (s_cons (s_var (v := .ref a) rfl (s_cons (s_c (s_nil ?_)))))))))))
    refine u_signs (by omega) (by omega) p0 fun s H1 a1 a2 a3 a4 e1 p1 => ?_
    have hs := gS a1 a2 a3 a4
    refine s_cons (s_c (s_cons (s_c (s_nil ?_))))
    refine u_model hs (by omega) (by omega) p1 fun q M H2 m1 hab _ nq1 e2 p2 hq => s_gName ?_
    refine s_seq (s_asg (s_call (s_cons (s_var (v := .ref a) rfl (s_cons (s_var (v := .ref q) rfl (s_nil ?_)))))))
    refine u_parts hq m1 p2 fun p s' rs ts ys H3 e3 p3 T hP => s_gName ?_
    refine s_seq (s_asg (s_call (s_cons (s_var (v := .ref a) rfl (s_cons (s_c (s_nil ?_)))))))
    refine u_draw (by decide) (by decide) p3 fun w H4 w0 w1 e4 p4 => s_gName ?_
    show tSeq _ _ _ [some (.ref a), some (.int (0 + (i : Int))), some (.ref q), some (.ref p), some (.int w), x5, x6, x7, x8] _
    have hP : PartsAt K H4 p M s' rs ts ys := by
      obtain ⟨o, r, t, y, h1, h2, h3, h4, h5⟩ := hP
      refine ⟨o, r, t, y, e4.get (fun z => ?_) h1, sqT_pool p3 e4 h2, h3.exP p3 e4, h4.exP p3 e4, sqT_pool p3 e4 h5⟩
      obtain ⟨i, j, l, hp⟩ := p3
      rw [List.mem_singleton.mp z, hp] at h1
      cases h1
    have e04 : ExN [a] H H4 := e0.trans (ExN.of (((e1.trans e2).trans e3).trans e4))
    have t4 := Tabs.exP p0 (((e1.trans e2).trans e3).trans e4) t0
    clear hq e1 e2 e3 e4 p0 p1 p2 p3 t0 a1 a2 a3 a4 hs hab nq1
    -- the last step
    have tail : ∀ {G : Hp} {r : Addr} {xs : List V} {x5 x6 x7 x8 : Option V}, ExN [a] H G → PoolAt G a → Tabs (tabs14 K) G → G r = some (.lst xs) → PtN K [a] G xs → (tIfS (tNot (tB (tCall (sp_law_parts_right K) [] E0 (tCons (tVar 3) tNil)))) (tRet (tC (.bl false))) tNext) ⟨fun σ G => ∃ x1 x2 x3 x4 x5 x6 x7 x8, σ = [some (.ref a), x1, x2, x3, x4, x5, x6, x7, x8] ∧ ExN [a] H G ∧ PoolAt G a ∧ Tabs (tabs14 K) G, Q, fun _ _ => False, fun _ _ => False⟩ [some (.ref a), some (.int (0 + (i : Int))), some (.ref q), some (.ref r), some (.int w), x5, x6, x7, x8] G := fun {G r xs x5 x6 x7 x8} eG pG tG hr N => by
      refine s_ifS (s_not (s_tB (s_call (s_cons (s_var (v := .ref r) rfl (s_nil (u_parts_right hr N tG fun G' e' t' => s_blQ (s_F rfl (s_next ?_)))))))))
      exact ⟨_, _, _, _, _, _, _, _, rfl, eG.trans (e'.less (by simp)), pool_exN pG e', t'⟩
    refine s_seq (s_ifS (s_test (s_op (s_var (v := .int w) rfl (s_c (s_ltI (s_blQ ?_)))))))
    by_cases c1 : w < 5
    · refine s_Td c1 (s_asg (s_call (s_cons (s_var (v := .ref a) rfl (s_cons (s_var (v := .ref p) rfl (s_cons (s_var (v := .int w) rfl (s_nil ?_)))))))))
      refine ⟨a, p, w, rfl, M, s', rs, ts, ys, [a], hP, T, m1, w0, by omega, p4, far1, by simp, fun r xs G5 nr e5 p5 hr N => s_gName ?_⟩
      refine s_seq (s_ifS (s_test (s_op (s_var (v := .int w) rfl (s_lst (s_cons (s_c (s_cons (s_c (s_nil (s_alloc (by show 2 ≤ sizeLine; decide) fun z G6 _ e6 hz => ?_)))))))))))
      refine s_inI (ls := [5, 6]) (SqL.of hz) (s_blQ (s_Fd (by simp; omega) (s_next ?_)))
      exact tail ((e04.trans (ExN.of e5)).trans (ExN.of0 e6)) (p5.ex e6 (by simp)) (Tabs.ex0 e6 (Tabs.exP p4 e5 t4)) (e6.get0 hr) (N.ex (ExN.of0 e6))
    refine s_Fd c1 (s_next ?_)
    refine s_seq (s_ifS (s_test (s_op (s_var (v := .int w) rfl (s_lst (s_cons (s_c (s_cons (s_c (s_nil (s_alloc (by show 2 ≤ sizeLine; decide) fun z G5 _ e5 hz => ?_)))))))))))
    refine s_inI (ls := [5, 6]) (SqL.of hz) (s_blQ ?_)
    have p5 := p4.ex e5 (by simp)
    have e05 : ExN [a] H G5 := e04.trans (ExN.of0 e5)
    have t5 := Tabs.ex0 e5 t4
    have hP : PartsAt K G5 p M s' rs ts ys := by
      obtain ⟨o, r, t, y, h1, h2, h3, h4, h5⟩ := hP
      exact ⟨o, r, t, y, e5.get0 h1, sq0 e5 h2, h3.ex0 e5, h4.ex0 e5, sq0 e5 h5⟩
    clear e04 p4 t4 e5 hz
    by_cases c2 : w = 5 ∨ w = 6
    rotate_left
    · refine s_Fd (by simpa using c2) (s_next ?_)
      obtain ⟨o, r, t, y, h1, h2, h3, h4, h5⟩ := hP
      exact tail e05 p5 t5 h1 (ptN_parts p5 far1 T m1 h2 h3 h4 h5)
    refine s_Td (by simpa using c2) ?_
    refine s_seq (s_asg (s_tup (s_cons (s_call (s_cons (s_var (v := .ref a) rfl (s_cons (s_c (s_nil ?_)))))))))
    refine u_draw (by decide) (by decide) p5 fun n H6 n0 n1 e6 p6 => ?_
    refine s_cons (s_call (s_cons (s_var (v := .ref a) rfl (s_cons (s_c (s_nil ?_))))))
    refine u_draw (by decide) (by decide) p6 fun f H7 f0 f1 e7 p7 => ?_
    refine s_nil (s_alloc (by show 2 ≤ sizeLine; decide) fun z H8 _ e8 hz => ?_)
    refine s_gTup (SqT.of hz) rfl (s_gCons (s_gName (s_gCons (s_gName (s_gNil ?_)))))
    show tSeq _ _ _ [some (.ref a), some (.int (0 + (i : Int))), some (.ref q), some (.ref p), some (.int w), x5, some (.int n), some (.int f), x8] _
    have p8 := p7.ex e8 (by simp)
    have e58 : Ex [a] G5 H8 := (e6.trans e7).trans e8.wide
    have exP : ∀ {G G' : Hp}, PoolAt G a → Ex [a] G G' → PartsAt K G p M s' rs ts ys → PartsAt K G' p M s' rs ts ys := fun {G G'} pG e hP => by
      obtain ⟨o, r, t, y, h1, h2, h3, h4, h5⟩ := hP
      refine ⟨o, r, t, y, e.get (fun z => ?_) h1, sqT_pool pG e h2, h3.exP pG e, h4.exP pG e, sqT_pool pG e h5⟩
      obtain ⟨i, j, l, hp⟩ := pG
      rw [List.mem_singleton.mp z, hp] at h1
      cases h1
    have hP8 := exP p5 e58 hP
    refine s_seq (s_asg (s_call (s_cons (s_var (v := .ref a) rfl (s_cons (s_var (v := .ref p) rfl (s_cons (s_var (v := .int n) rfl (s_nil ?_)))))))))
    refine ⟨a, p, n, rfl, M, s', rs, ts, ys, [a], hP8, T, m1, n0, by omega, p8, far1, by simp, fun r xs H9 nr e9 p9 hr N => s_gName ?_⟩
    show tAsg _ _ _ [some (.ref a), some (.int (0 + (i : Int))), some (.ref q), some (.ref p), some (.int w), some (.ref r), some (.int n), some (.int f), x8] _
    have hra : r ∉ [a] := fun z => p8.there (by rw [← List.mem_singleton.mp z]; exact nr)
    have hP9 := exP p8 e9 hP8
    have e59 := e58.trans e9
    have e09 : ExN [a] H H9 := e05.trans (ExN.of e59)
    have t9 := Tabs.exP p5 e59 t5
    clear e6 e7 e8 p6 p7 p8 hz hP8 e58 e9 nr hP e05 t5
    refine s_asg (s_lc (s_rng1 (s_cons (s_c (s_nil (s_rng1i (by decide) ?_))))))
    intro D hD
    have nDa : D ∉ [a] := fun z => p9.there (by rw [← List.mem_singleton.mp z]; exact hD)
    have nar : a ∉ [D] := fun z => nDa (by rw [List.mem_singleton.mp z]; simp)
    refine lc_it walk_range (fun j G => Ex [a] H9 G ∧ PoolAt G a ∧ ∃ acc, G D = some (.lst acc) ∧ acc.length = j ∧ ∀ (k : Nat) v, acc[k]? = some v → PtI K [D, a] G k v) ⟨Ex.new hD, p9.upd nDa, [], upd_same, rfl, fun k v h => by cases h⟩ (fun _ _ _ _ => trivial) ?_ ?_
    · rintro j x G1 G2 hj ⟨e1, p1, acc, hacc, hl, hA⟩ ⟨rfl, rfl⟩
      have hj5 : j < 5 := hj
      refine ⟨wipe1 _ _ _, ?_⟩
      refine s_yes ?_
      refine s_T rfl ?_
      have put : ∀ {v : V} {G : Hp}, Ex [a] G2 G → PoolAt G a → PtI K [D, a] G j v → ∃ acc, G D = some (.lst acc) ∧ acc.length < sizeLine ∧ (Ex [a] H9 (upd G D (.lst (acc ++ [v]))) ∧ PoolAt (upd G D (.lst (acc ++ [v]))) a ∧ ∃ acc', (upd G D (.lst (acc ++ [v]))) D = some (.lst acc') ∧ acc'.length = j + 1 ∧ ∀ (k : Nat) u, acc'[k]? = some u → PtI K [D, a] (upd G D (.lst (acc ++ [v]))) k u) := fun {v G} e pG hv => by
        have xU : ExN [D, a] G (upd G D (.lst (acc ++ [v]))) := fun b o n hb _ => by rw [upd_ne (fun z => n (by rw [z]; simp))]; exact hb
        refine ⟨acc, e.get nDa hacc, Nat.lt_of_le_of_lt (show acc.length ≤ 5 by omega) (by decide), ?_, pG.upd nDa, _, upd_same, by rw [List.length_append, hl]; rfl, fun k u hk => ?_⟩
        · intro b o nb hb
          rw [upd_ne (ne_of_none hb hD)]
          exact e b o nb (e1 b o nb hb)
        · by_cases hkj : k < j
          · rw [List.getElem?_append_left (by omega)] at hk
            exact ((hA k u hk).ex ((ExN.of e).less (by simp))).ex xU
          · rw [List.getElem?_append_right (by omega)] at hk
            obtain ⟨h0, _⟩ := List.getElem?_eq_some_iff.mp hk
            have : k = j := by simp at h0; omega
            subst this
            rw [hl, Nat.sub_self] at hk
            cases hk
            exact hv.ex xU
      show tIf _ _ _ [some (.ref a), some (.int (0 + (i : Int))), some (.ref q), some (.ref p), some (.int w), some (.ref r), some (.int n), some (.int f), some (.int (0 + (j : Int)))] _ _
      rw [Int.zero_add (j : Int)]
      refine s_ifE (s_test (s_op (s_var (v := .int (j : Int)) rfl (s_var (v := .int f) rfl (s_eqI (s_blQ ?_))))))
      by_cases cf : (j : Int) = f
      · refine s_Td cf (s_op (s_call (s_cons (s_var (v := .ref a) rfl (s_cons (s_var (v := .ref p) rfl (s_cons (s_var (v := .int f) rfl (s_nil ?_)))))))))
        have F : Far a [D, a] G2 := fun b hb => by
          rcases List.mem_cons.mp hb with rfl | hb
          · exact .inr ⟨_, hacc⟩
          · exact .inl (List.mem_singleton.mp hb)
        refine ⟨a, p, f, rfl, M, s', rs, ts, ys, [D, a], exP p9 e1 hP9, T, m1, f0, by omega, p1, F, by simp, fun r3 xs3 G3 nr3 e3 p3 hr3 N3 => ?_⟩
        obtain ⟨u, hu⟩ : ∃ u, xs3[j]? = some u := ⟨_, List.getElem?_eq_getElem (by rw [N3.l]; exact hj5)⟩
        refine s_var (v := .int (j : Int)) rfl (s_ixL (v := u) (SqL.of hr3) (atI_of (Int.natCast_nonneg _) (by rw [Int.toNat_natCast]; exact hu)) (put e3 p3 (N3.p j u hu)))
      · obtain ⟨u, hu⟩ : ∃ u, xs[j]? = some u := ⟨_, List.getElem?_eq_getElem (by rw [N.l]; exact hj5)⟩
        refine s_Fd cf (s_op (s_var (v := .ref r) rfl (s_var (v := .int (j : Int)) rfl (s_ixL (v := u) (SqL.of (e1.get hra hr)) (atI_of (Int.natCast_nonneg _) (by rw [Int.toNat_natCast]; exact hu)) (put Ex.rfl p1 ((N.p j u hu).fresh hD (ExN.of e1)))))))
    · rintro G ⟨e1, p1, acc, hacc, hl, hA⟩
      refine s_gName ?_
      exact tail (e09.trans (ExN.of e1)) p1 (Tabs.exP p9 e1 t9) hacc ⟨hl, fun k v hk => (hA k v hk).less (by simp)⟩
  · rintro σ G ⟨x1, x2, x3, x4, x5, x6, x7, x8, rfl, e0, p0, t0⟩
    walk_at "go"
    exact k _ e0 t0
theorem lc_tabsL {b : Addr} {ws : List V} {j : Nat} {te : TE} {σ : L2.St} {T : List (Addr × Str)} (hn : ws.length ≤ 1000) (hT : Tabs T H) (hb : SqL K H b ws)
    (h : ∀ (x : V) (H1 : Hp) (C : VK), x ∈ ws → ExN [] H H1 → Tabs T H1 → (∀ H2, ExN [] H1 H2 → Tabs T H2 → C (.bl true) H2) → te ((wipe σ [j]).set j (some x)) H1 C)
    (k : ∀ D H', ExN [] H H' → Tabs T H' → H' D = some (.lst ((List.range ws.length).map fun _ => .bl true)) → Q (.ref D) H') : LcW (Itl K b) (gName j) tYes te [j] σ H Q := by
  intro D hD
  have xU : ∀ {H1 : Hp} {o : HO}, ExN [] H H1 → ExN [] H (upd H1 D o) := fun {H1 o} e b u nb hb z => by
    rw [upd_ne (ne_of_none hb hD)]
    exact e b u nb hb z
  refine lc_it walk_list (fun i H1 => ExN [] H H1 ∧ Tabs T H1 ∧ H1 D = some (.lst ((List.range i).map fun _ => .bl true))) ⟨xU ExN.refl, Tabs.updL (.inl hD) hT, upd_same⟩ (fun _ _ _ h => sqL_exN h.1 (by simp) hb) ?_ ?_
  · rintro i x H1 H2 hi ⟨e, hT1, hd⟩ ⟨rfl, hx⟩
    refine ⟨wipe1 _ _ _, ?_⟩
    refine s_yes ?_
    refine s_T rfl ?_
    refine h x H2 _ (List.mem_of_getElem? hx) e hT1 fun H5 e5 hT5 => ?_
    have hd5 : H5 D = some (.lst ((List.range i).map fun _ => .bl true)) := e5 D _ (by simp) hd fun _ z => by cases z
    refine ⟨_, hd5, by simp; exact Nat.lt_of_lt_of_le hi (Nat.le_trans hn (by decide)), xU (e.trans e5), Tabs.updL (.inr ⟨_, hd5⟩) hT5, ?_⟩
    rw [upd_same, List.range_succ, List.map_append]
    rfl
  · rintro H1 ⟨e, hT1, hd⟩
    exact k D H1 e hT1 hd
def L7 : List (List Nat) := [[97], [98, 50], [99], [100], [101], [108, 111, 110, 103, 110, 97, 109, 101], [103]]
def rwL (l : List Nat) : List V := [vS l, vS [120], vS l, .int 0]
def okT (ls : List (List Nat)) : Prop := ls.length ≤ 10 ∧ ∀ l ∈ ls, l.length ≤ 100 ∧ plain l
theorem lim_pt {po li t1 t2 : Addr} {ls : List (List Nat)} {rows : List (List V)} (ho : SqT K H po (ls.map vS)) (hl : okT ls) (hr : TupsAt K H li rows) (hn : rows.length ≤ 50) (he : ∀ l ∈ rows, l.length ≤ 10 ∧ ∀ x ∈ l, ElA K x) (h1 : SqT K H t1 []) (h2 : SqT K H t2 []) : PtN K [] H [vS [120], .ref po, .ref li, .ref t1, .ref t2] := by
  have eo : ∀ x ∈ ls.map vS, ElA K x := fun x hx => by
    obtain ⟨l, hl', rfl⟩ := List.mem_map.mp hx
    exact .S (by have := (hl.2 l hl').1; omega) (hl.2 l hl').2
  refine ⟨rfl, fun k v hv => ?_⟩
  match k, hv with
  | 0, hv => cases hv; exact txt_p0 (by decide) (by intro c hc; revert c; decide)
  | 1, hv => cases hv; exact ⟨some (ls.map vS), fun H' e => .tup (sqT_n0 e ho) (by rw [List.length_map]; exact hl.1) fun x hx => (eo x hx).el, plD_ela eo⟩
  | 2, hv =>
    cases hv
    obtain ⟨xs, hx, hxs⟩ := hr
    obtain ⟨ds, z1, z2⟩ := ch_ds (P := fun v d => ∀ H', ExN [] H H' → ThK K H' v d) (ys := xs) fun y hy => by
      obtain ⟨p, l, rfl, hl', hp'⟩ := tups_el hxs hy
      exact ⟨some l, fun H' e => .tup (sqT_n0 e hp') (he l hl').1 fun x hx => ((he l hl').2 x hx).el⟩
    exact ⟨some ds, fun H' e => .tup (sqT_n0 e hx) z1 (by have := hxs.1; omega) fun i x d y1 y2 => z2 i x d y1 y2 H' e⟩
  | 3, hv => cases hv; exact ⟨some [], fun H' e => .tup (sqT_n0 e h1) rfl (by simp) fun i x d h => by cases h⟩
  | 4, hv => cases hv; exact ⟨some [], fun H' e => .tup (sqT_n0 e h2) (by simp) (by simp)⟩
theorem ela_rwL {ls : List (List Nat)} (h : okT ls) : ∀ l ∈ ls.map rwL, l.length ≤ 10 ∧ ∀ x ∈ l, ElA K x := fun l hl => by
  obtain ⟨w, hw, rfl⟩ := List.mem_map.mp hl
  have n : ElA K (vS w) := .S (by have := (h.2 w hw).1; omega) (h.2 w hw).2
  refine ⟨by show 4 ≤ 10; decide, fun x hx => ?_⟩
  simp only [rwL, List.mem_cons, List.not_mem_nil, or_false] at hx
  rcases hx with rfl | rfl | rfl | rfl
  · exact n
  · exact .S (by decide) (by intro c hc; revert c; decide)
  · exact n
  · exact .I
instance {l : List Nat} : Decidable (plain l) := by unfold plain; infer_instance
instance {ls : List (List Nat)} : Decidable (okT ls) := by unfold okT; infer_instance
theorem pure_law_at_the_limit (h : sp_law_at_the_limit K vs H Q E) : t_law_at_the_limit K (E1 Q) (start ["_law_posts", "_law_lines", "_law_post", "_law_some", "_law_states_here"] vs) H := by
  obtain ⟨rfl, hT, k⟩ := h
  show t_law_at_the_limit K (E1 Q) [none, none, none, none, none] H
  unfold t_law_at_the_limit
  refine s_seq (s_asg (s_tup (s_cons (s_cS (l := [97]) (by decide +kernel) (s_cons (s_cS (l := [98, 50]) (by decide +kernel) (s_cons (s_cS (l := [99]) (by decide +kernel) (s_cons (s_cS (l := [100]) (by decide +kernel) (s_cons (s_cS (l := [101]) (by decide +kernel) (s_cons (s_cS (l := [108, 111, 110, 103, 110, 97, 109, 101]) (by decide +kernel) (s_cons (s_cS (l := [103]) (by decide +kernel) (s_nil (s_alloc (by show 7 ≤ sizeLine; decide) fun po H1 n1 e1 h1 => s_gName ?_))))))))))))))))))
  have ho : SqT K H1 po (L7.map vS) := SqT.of h1
  refine s_seq (s_asg (s_cb (s_cons (s_lc (s_iTup (s_var (v := .ref po) rfl (s_iTupA ho ?_)))))))
  refine lc_run walk_tup (by decide) [] (fun _ => True) (fun i acc G => Tups K G acc ((L7.take i).map rwL)) (by simp) trivial Tups.nil (fun _ _ _ _ _ => trivial) (fun i acc G D o hD h => Tups.upd hD h) (fun G e => sq0 e ho) ?_ ?_
  · rintro i acc x H2 H3 C1 C0 hi e _ hacc ⟨rfl, hx⟩ k1 k0
    refine ⟨wipe1 _ _ _, ?_⟩
    refine s_yes ?_
    refine s_T rfl ?_
    rw [List.getElem?_map] at hx
    obtain ⟨l, hl, rfl⟩ := Option.map_eq_some_iff.mp hx
    refine s_tup (s_cons (s_var (v := vS l) rfl (s_cons (s_cS (l := [120]) (by decide +kernel) (s_cons (s_var (v := vS l) rfl (s_cons (s_c (s_nil (s_alloc (by show 4 ≤ sizeLine; decide) fun p H5 np e5 hp => k1 _ H5 e5 trivial ?_))))))))))
    rw [take_of hl, List.map_append]
    exact (hacc.ex0 e5).snoc (SqT.of hp)
  intro D H2 ys nD e2 _ hD hl hys
  refine s_nil (s_tupOf (SqL.of hD) fun li H3 _ e3 h3 => s_gName ?_)
  have hTu : Tups K H3 ys (L7.map rwL) := Tups.ex0 e3 hys
  have hyl : ys.length = 7 := by rw [hTu.1]; rfl
  have hli : SqT K H3 li ys := SqT.of h3
  have ho3 := sq0 e3 (sq0 e2 ho)
  have x3 : ExN [] H H3 := ExN.of ((e1.trans e2).trans e3)
  have t3 := Tabs.ex0 ((e1.trans e2).trans e3) hT
  show tSeq _ _ _ [some (.ref po), some (.ref li), none, none, none] _
  clear e1 e2 e3 ho hys hD n1 h1 h3 nD hl hT
  refine s_seq (s_ifS (s_or (s_not (s_tB (s_call (s_cons (s_lst (s_cons (s_cS (l := [120]) (by decide +kernel) (s_cons (s_sl (s_var (v := .ref po) rfl (s_noPart (s_part (s_c (s_int1 (s_slA ho3 fun y1 G1 f1 g1 => ?_)))))))))))))))))
  rw [cutV_to (by decide)] at g1
  refine s_cons (s_sl (s_var (v := .ref li) rfl (s_noPart (s_part (s_c (s_int1 (s_slA (sq0 f1 hli) fun y2 G2 f2 g2 => ?_)))))))
  rw [cutV_to (by decide)] at g2
  refine s_cons (s_tup (s_nil (s_alloc (by show 0 ≤ sizeLine; decide) fun z1 G3 _ f3 g3 => s_cons (s_tup (s_nil (s_alloc (by show 0 ≤ sizeLine; decide) fun z2 G4 _ f4 g4 => s_nil (s_alloc (by show 5 ≤ sizeLine; decide) fun z3 G5 _ f5 g5 => s_nil ?_)))))))
  have f35 := (f3.trans f4).trans f5
  have f15 := f2.trans f35
  have f05 := f1.trans f15
  have hy2 : TupsAt K G5 y2 ((L7.map rwL).take 6) := TupsAt.take (Tups.ex0 f05 hTu) (sq0 f35 g2)
  refine u_parts_right g5 (lim_pt (ls := L7.take 6) (sq0 f15 g1) (by decide) hy2 (by decide) (fun l hl => ela_rwL (ls := L7) (by decide) l (List.mem_of_mem_take hl)) (SqT.of ((f4.trans f5).get0 g3)) (SqT.of (f5.get0 g4))) (Tabs.ex0 f05 t3) fun G6 f6 t6 => s_blQ (s_F rfl ?_)
  have x36 := (ExN.of f05).trans f6
  have x6 := x3.trans x36
  have ho6 := sqT_n0 x36 ho3
  have hli6 := sqT_n0 x36 hli
  have tn : ∀ {G G' : Hp}, ExN [] G G' → Tups K G ys (L7.map rwL) → Tups K G' ys (L7.map rwL) := fun e h => ⟨h.1, fun i x l h1 h2 => by
    obtain ⟨p, rfl, hp⟩ := h.2 i x l h1 h2
    exact ⟨p, rfl, sqT_n0 e hp⟩⟩
  have hTu6 := tn x36 hTu
  clear f1 f2 f3 f4 f5 f35 f15 f05 g1 g2 g3 g4 g5 hy2 f6 x36 x3 t3 ho3 hli hTu
  refine s_not (s_tB (s_call (s_cons (s_lst (s_cons (s_cS (l := [120]) (by decide +kernel) (s_cons (s_var (v := .ref po) rfl (s_cons (s_var (v := .ref li) rfl ?_))))))))))
  refine s_cons (s_tup (s_nil (s_alloc (by show 0 ≤ sizeLine; decide) fun z1 G3 _ f3 g3 => s_cons (s_tup (s_nil (s_alloc (by show 0 ≤ sizeLine; decide) fun z2 G4 _ f4 g4 => s_nil (s_alloc (by show 5 ≤ sizeLine; decide) fun z3 G5 _ f5 g5 => s_nil ?_)))))))
  have f35 := (f3.trans f4).trans f5
  refine u_parts_right g5 (lim_pt (ls := L7) (sq0 f35 ho6) (by decide) (TupsAt.mk (sq0 f35 hli6) (Tups.ex0 f35 hTu6)) (by decide) (fun l hl => ela_rwL (ls := L7) (by decide) l hl) (SqT.of ((f4.trans f5).get0 g3)) (SqT.of (f5.get0 g4))) (Tabs.ex0 f35 t6) fun G7 f7 t7 => s_blQ (s_F rfl (s_next ?_))
  have x67 := (ExN.of f35).trans f7
  have x7 := x6.trans x67
  have ho7 := sqT_n0 x67 ho6
  have hli7 := sqT_n0 x67 hli6
  have hTu7 := tn x67 hTu6
  clear f3 f4 f5 f35 g3 g4 g5 f7 x67 x6 t6 ho6 hli6 hTu6
  -- the four
  refine s_seq (s_asg (s_lst (s_cons (s_op (s_op (s_sl (s_var (v := .ref po) rfl (s_noPart (s_part (s_c (s_int1 (s_slA ho7 fun y1 G1 f1 g1 => ?_))))))))))))
  rw [cutV_to (by decide)] at g1
  refine s_tup (s_cons (s_cS (l := [97]) (by decide +kernel) (s_nil (s_alloc (by show 1 ≤ sizeLine; decide) fun y2 G2 _ f2 g2 => ?_))))
  refine s_catB (sq0 f2 g1) (SqT.of g2) (by decide) fun y3 G3 f3 g3 => ?_
  have f03 := (f1.trans f2).trans f3
  refine s_sl (s_var (v := .ref po) rfl (s_part (s_c (s_int1 (s_noPart (s_slA (sq0 f03 ho7) fun y4 G4 f4 g4 => ?_))))))
  rw [cutV_from (by decide)] at g4
  refine s_catB (sq0 f4 g3) g4 (by decide) fun w1 G5 f5 k1 => ?_
  have f05 := (f03.trans f4).trans f5
  refine s_cons (s_op (s_sl (s_var (v := .ref po) rfl (s_noPart (s_part (s_c (s_int1 (s_slA (sq0 f05 ho7) fun y6 G6 f6 g6 => ?_))))))))
  rw [cutV_to (by decide)] at g6
  refine s_tup (s_cons (s_cS (l := [90]) (by decide +kernel) (s_nil (s_alloc (by show 1 ≤ sizeLine; decide) fun y7 G8 _ f8 g8 => ?_))))
  refine s_catB (sq0 f8 g6) (SqT.of g8) (by decide) fun w2 G9 f9 k2 => ?_
  have f59 := (f6.trans f8).trans f9
  refine s_cons (s_op (s_sl (s_var (v := .ref po) rfl (s_noPart (s_part (s_c (s_int1 (s_slA (sq0 f59 (sq0 f05 ho7)) fun y10 G10 f10 g10 => ?_))))))))
  rw [cutV_to (by decide)] at g10
  refine s_tup (s_cons (s_cS (l := [108, 111, 110, 103, 110, 97, 109, 101, 115]) (by decide +kernel) (s_cons (s_cS (l := [103]) (by decide +kernel) (s_nil (s_alloc (by show 2 ≤ sizeLine; decide) fun y11 G11 _ f11 g11 => ?_))))))
  refine s_catB (sq0 f11 g10) (SqT.of g11) (by decide) fun w3 G12 f12 k3 => ?_
  refine s_cons (s_tup (s_nil (s_alloc (by show 0 ≤ sizeLine; decide) fun w4 G13 _ f13 k4 => ?_)))
  refine s_nil (s_alloc (by show 4 ≤ sizeLine; decide) fun so G14 _ f14 k5 => s_gName ?_)
  have f912 := (f10.trans f11).trans f12
  have f1214 := f13.trans f14
  have q1 := sq0 f1214 (sq0 f912 (sq0 f59 k1))
  have q2 := sq0 f1214 (sq0 f912 k2)
  have q3 := sq0 f1214 k3
  have q4 : SqT K G14 w4 [] := SqT.of (f14.get0 k4)
  have f014 := ((f05.trans f59).trans f912).trans f1214
  have hli14 := sq0 f014 hli7
  have hTu14 := Tups.ex0 f014 hTu7
  have t14 := Tabs.ex0 f014 t7
  have x14 := x7.trans (ExN.of f014)
  show tRet _ _ [some (.ref po), some (.ref li), none, some (.ref so), none] _
  have each : ∀ x ∈ ([.ref w1, .ref w2, .ref w3, .ref w4] : List V), ∃ z ls, x = .ref z ∧ okT ls ∧ SqT K G14 z (ls.map vS) := fun x hx => by
    simp only [List.mem_cons, List.not_mem_nil, or_false] at hx
    rcases hx with rfl | rfl | rfl | rfl
    · exact ⟨_, L7.take 3 ++ [[97]] ++ L7.drop 3, rfl, by decide, by rw [List.map_append, List.map_append, List.map_take, List.map_drop]; exact q1⟩
    · exact ⟨_, L7.take 6 ++ [[90]], rfl, by decide, by rw [List.map_append, List.map_take]; exact q2⟩
    · exact ⟨_, L7.take 5 ++ [[108, 111, 110, 103, 110, 97, 109, 101, 115], [103]], rfl, by decide, by rw [List.map_append, List.map_take]; exact q3⟩
    · exact ⟨_, [], rfl, by decide, q4⟩
  refine s_ret (s_cb (s_cons (s_lc (s_iList (s_var (v := .ref so) rfl (s_iListA (SqL.of k5) ?_))))))
  refine lc_tabsL (by simp) t14 (SqL.of k5) (fun x G C hx eG tG kk => ?_) (fun D G eG tG hD => ?_)
  · obtain ⟨z, ls, rfl, hok, hz⟩ := each x hx
    show tCall _ _ _ _ [some (.ref po), some (.ref li), none, some (.ref so), some (.ref z)] _ _
    refine s_call (s_cons (s_lst (s_cons (s_cS (l := [120]) (by decide +kernel) (s_cons (s_var (v := .ref z) rfl (s_cons (s_var (v := .ref li) rfl ?_))))))))
    refine s_cons (s_tup (s_nil (s_alloc (by show 0 ≤ sizeLine; decide) fun z1 G3 _ f3 g3 => s_cons (s_tup (s_nil (s_alloc (by show 0 ≤ sizeLine; decide) fun z2 G4 _ f4 g4 => s_nil (s_alloc (by show 5 ≤ sizeLine; decide) fun z3 G5 _ f5 g5 => s_nil ?_)))))))
    have f35 := (f3.trans f4).trans f5
    refine u_parts_right g5 (lim_pt (ls := ls) (sq0 f35 (sqT_n0 eG hz)) hok (TupsAt.mk (sq0 f35 (sqT_n0 eG hli14)) (Tups.ex0 f35 (tn eG hTu14))) (by decide) (fun l hl => ela_rwL (ls := L7) (by decide) l hl) (SqT.of ((f4.trans f5).get0 g3)) (SqT.of (f5.get0 g4))) (Tabs.ex0 f35 tG) fun G7 f7 t7 => ?_
    exact kk _ ((ExN.of f35).trans f7) t7
  · refine s_nil (s_all (bs := [true, true, true, true]) (SqL.of hD) ?_)
    exact k _ (x14.trans eG) tG
theorem u_right14 (hp : PoolAt H a) (hT : Tabs (tabs14 K) H) (k : ∀ H', ExN [a] H H' → Tabs (tabs14 K) H' → Q (.bl true) H') : sp_law_right14 K ([.ref a] ++ []) H Q E := ⟨a, rfl, hp, hT, k⟩
theorem pure_law14 (h : sp_law14 K vs H Q E) : t_law14 K (E1 Q) (start ["_law_script", "_law_k"] vs) H := by
  obtain ⟨a, ns, rfl, hs, hl, hT, k⟩ := h
  show t_law14 K (E1 Q) [some (.ref a), none] H
  unfold t_law14
  refine s_seq (s_ifS (s_not (s_tB (s_call (s_nil ⟨rfl, hT, fun H1 e1 t1 => s_blQ (s_F rfl (s_next ?_))⟩)))))
  have hs := sqL_exN e1 (by simp) hs
  clear hT e1
  walk_at "go"
  rw [List.length_map]
  generalize hn : (if (if (6 : Int) < (ns.length : Int) then (6 : Int) else (ns.length : Int)) > 2 then (if (6 : Int) < (ns.length : Int) then (6 : Int) else (ns.length : Int)) else 2) = n
  have hn2 : 0 ≤ n ∧ n ≤ 63 := by subst hn; split <;> (try split) <;> omega
  clear hn
  refine lc_tabs (by omega) t1 (fun i H1 C hi e t1 kk => ?_) (fun D H' hd => ?_)
  · walk_at "go"
    refine u_cell (sqL_exN e (by simp) hs) hl (by omega) (by omega) fun c H2 e2 => ?_
    walk_at "go"
    rename_i p H3 hp e3 p3
    refine u_right14 p3 (Tabs.ex0 (e2.trans e3) t1) fun H4 e4 t4 => ?_
    exact kk _ (ExN.drop (e2.free hp) (e2.trans e3) e4) t4
  · walk_at "go"
    refine s_all (bs := (List.range n.toNat).map fun _ => true) ?_ ?_
    · rw [List.map_map]; exact SqL.of hd
    · have : ((List.range n.toNat).map fun _ => true).all id = true := by simp
      rw [this]
      exact k _
end
end WB
namespace WB
open PySem PySem.Spec PyProof.Rows L2 LamX
structure Tx (K : Fr') (mg : Str → Option Value) : Prop where
  c : SaysW fa fn ex K
  h : ∃ h : Heap, K.In h ∧ h.Ns mainGlobals mg
theorem Tx.g_is_integer {K : Fr'} {mg : Str → Option Value} (T : Tx K mg) : mg "is_integer" = some (.ref (He.ga K "is_integer")) := by
  obtain ⟨h, X, G⟩ := T.h
  exact He.glo_ok X G (T.c.fact 0)
theorem Tx.g_is_name {K : Fr'} {mg : Str → Option Value} (T : Tx K mg) : mg "is_name" = some (.ref (He.ga K "is_name")) := by
  obtain ⟨h, X, G⟩ := T.h
  exact He.glo_ok X G (T.c.fact 1)
theorem Tx.g_is_word {K : Fr'} {mg : Str → Option Value} (T : Tx K mg) : mg "is_word" = some (.ref (He.ga K "is_word")) := by
  obtain ⟨h, X, G⟩ := T.h
  exact He.glo_ok X G (T.c.fact 2)
theorem Tx.g_is_row {K : Fr'} {mg : Str → Option Value} (T : Tx K mg) : mg "is_row" = some (.ref (He.ga K "is_row")) := by
  obtain ⟨h, X, G⟩ := T.h
  exact He.glo_ok X G (T.c.fact 3)
theorem Tx.g_check_signs {K : Fr'} {mg : Str → Option Value} (T : Tx K mg) : mg "check_signs" = some (.ref (He.ga K "check_signs")) := by
  obtain ⟨h, X, G⟩ := T.h
  exact He.glo_ok X G (T.c.fact 4)
theorem Tx.g_is_step {K : Fr'} {mg : Str → Option Value} (T : Tx K mg) : mg "is_step" = some (.ref (He.ga K "is_step")) := by
  obtain ⟨h, X, G⟩ := T.h
  exact He.glo_ok X G (T.c.fact 5)
theorem Tx.g_is_turn {K : Fr'} {mg : Str → Option Value} (T : Tx K mg) : mg "is_turn" = some (.ref (He.ga K "is_turn")) := by
  obtain ⟨h, X, G⟩ := T.h
  exact He.glo_ok X G (T.c.fact 6)
theorem Tx.g_check_states {K : Fr'} {mg : Str → Option Value} (T : Tx K mg) : mg "check_states" = some (.ref (He.ga K "check_states")) := by
  obtain ⟨h, X, G⟩ := T.h
  exact He.glo_ok X G (T.c.fact 7)
theorem Tx.g_check_rows {K : Fr'} {mg : Str → Option Value} (T : Tx K mg) : mg "check_rows" = some (.ref (He.ga K "check_rows")) := by
  obtain ⟨h, X, G⟩ := T.h
  exact He.glo_ok X G (T.c.fact 8)
theorem Tx.g_check_turns {K : Fr'} {mg : Str → Option Value} (T : Tx K mg) : mg "check_turns" = some (.ref (He.ga K "check_turns")) := by
  obtain ⟨h, X, G⟩ := T.h
  exact He.glo_ok X G (T.c.fact 9)
theorem Tx.g_check_yes {K : Fr'} {mg : Str → Option Value} (T : Tx K mg) : mg "check_yes" = some (.ref (He.ga K "check_yes")) := by
  obtain ⟨h, X, G⟩ := T.h
  exact He.glo_ok X G (T.c.fact 10)
theorem Tx.g_law_cell {K : Fr'} {mg : Str → Option Value} (T : Tx K mg) : mg "_law_cell" = some (.ref (He.ga K "_law_cell")) := by
  obtain ⟨h, X, G⟩ := T.h
  exact He.glo_ok X G (T.c.fact 11)
theorem Tx.g_law_pool {K : Fr'} {mg : Str → Option Value} (T : Tx K mg) : mg "_law_pool" = some (.ref (He.ga K "_law_pool")) := by
  obtain ⟨h, X, G⟩ := T.h
  exact He.glo_ok X G (T.c.fact 12)
theorem Tx.g_law_draw {K : Fr'} {mg : Str → Option Value} (T : Tx K mg) : mg "_law_draw" = some (.ref (He.ga K "_law_draw")) := by
  obtain ⟨h, X, G⟩ := T.h
  exact He.glo_ok X G (T.c.fact 13)
theorem Tx.g_law_shufU {K : Fr'} {mg : Str → Option Value} (T : Tx K mg) : mg "_law_shuffled" = some (.ref (He.ga K "_law_shuffled")) := by
  obtain ⟨h, X, G⟩ := T.h
  exact He.glo_ok X G (T.c.fact 14)
theorem Tx.g_law_faceX {K : Fr'} {mg : Str → Option Value} (T : Tx K mg) : mg "_law_face" = some (.ref (He.ga K "_law_face")) := by
  obtain ⟨h, X, G⟩ := T.h
  exact He.glo_ok X G (T.c.fact 15)
theorem Tx.g_law_wholeK {K : Fr'} {mg : Str → Option Value} (T : Tx K mg) : mg "_law_whole" = some (.ref (He.ga K "_law_whole")) := by
  obtain ⟨h, X, G⟩ := T.h
  exact He.glo_ok X G (T.c.fact 16)
theorem Tx.g_law_oddM {K : Fr'} {mg : Str → Option Value} (T : Tx K mg) : mg "_law_odd" = some (.ref (He.ga K "_law_odd")) := by
  obtain ⟨h, X, G⟩ := T.h
  exact He.glo_ok X G (T.c.fact 17)
theorem Tx.g_law_signs {K : Fr'} {mg : Str → Option Value} (T : Tx K mg) : mg "_law_signs" = some (.ref (He.ga K "_law_signs")) := by
  obtain ⟨h, X, G⟩ := T.h
  exact He.glo_ok X G (T.c.fact 18)
theorem Tx.g_law_is_word {K : Fr'} {mg : Str → Option Value} (T : Tx K mg) : mg "_law_is_word" = some (.ref (He.ga K "_law_is_word")) := by
  obtain ⟨h, X, G⟩ := T.h
  exact He.glo_ok X G (T.c.fact 19)
theorem Tx.g_law_name {K : Fr'} {mg : Str → Option Value} (T : Tx K mg) : mg "_law_name" = some (.ref (He.ga K "_law_name")) := by
  obtain ⟨h, X, G⟩ := T.h
  exact He.glo_ok X G (T.c.fact 20)
theorem Tx.g_law_names {K : Fr'} {mg : Str → Option Value} (T : Tx K mg) : mg "_law_names" = some (.ref (He.ga K "_law_names")) := by
  obtain ⟨h, X, G⟩ := T.h
  exact He.glo_ok X G (T.c.fact 21)
theorem Tx.g_law_amount {K : Fr'} {mg : Str → Option Value} (T : Tx K mg) : mg "_law_amount" = some (.ref (He.ga K "_law_amount")) := by
  obtain ⟨h, X, G⟩ := T.h
  exact He.glo_ok X G (T.c.fact 22)
theorem Tx.g_law_model {K : Fr'} {mg : Str → Option Value} (T : Tx K mg) : mg "_law_model" = some (.ref (He.ga K "_law_model")) := by
  obtain ⟨h, X, G⟩ := T.h
  exact He.glo_ok X G (T.c.fact 23)
theorem Tx.g_law_lineF {K : Fr'} {mg : Str → Option Value} (T : Tx K mg) : mg "_law_line" = some (.ref (He.ga K "_law_line")) := by
  obtain ⟨h, X, G⟩ := T.h
  exact He.glo_ok X G (T.c.fact 24)
theorem Tx.g_law_is_name {K : Fr'} {mg : Str → Option Value} (T : Tx K mg) : mg "_law_is_name" = some (.ref (He.ga K "_law_is_name")) := by
  obtain ⟨h, X, G⟩ := T.h
  exact He.glo_ok X G (T.c.fact 25)
theorem Tx.g_law_is_step27 {K : Fr'} {mg : Str → Option Value} (T : Tx K mg) : mg "_law_is_step" = some (.ref (He.ga K "_law_is_step")) := by
  obtain ⟨h, X, G⟩ := T.h
  exact He.glo_ok X G (T.c.fact 26)
theorem Tx.g_law_is_end27 {K : Fr'} {mg : Str → Option Value} (T : Tx K mg) : mg "_law_is_end" = some (.ref (He.ga K "_law_is_end")) := by
  obtain ⟨h, X, G⟩ := T.h
  exact He.glo_ok X G (T.c.fact 27)
theorem Tx.g_law_bad_signs {K : Fr'} {mg : Str → Option Value} (T : Tx K mg) : mg "_law_bad_signs" = some (.ref (He.ga K "_law_bad_signs")) := by
  obtain ⟨h, X, G⟩ := T.h
  exact He.glo_ok X G (T.c.fact 28)
theorem Tx.g_law_states_due {K : Fr'} {mg : Str → Option Value} (T : Tx K mg) : mg "_law_states_due" = some (.ref (He.ga K "_law_states_due")) := by
  obtain ⟨h, X, G⟩ := T.h
  exact He.glo_ok X G (T.c.fact 29)
theorem Tx.g_law_rows_due {K : Fr'} {mg : Str → Option Value} (T : Tx K mg) : mg "_law_rows_due" = some (.ref (He.ga K "_law_rows_due")) := by
  obtain ⟨h, X, G⟩ := T.h
  exact He.glo_ok X G (T.c.fact 30)
theorem Tx.g_law_ends_due {K : Fr'} {mg : Str → Option Value} (T : Tx K mg) : mg "_law_ends_due" = some (.ref (He.ga K "_law_ends_due")) := by
  obtain ⟨h, X, G⟩ := T.h
  exact He.glo_ok X G (T.c.fact 31)
theorem Tx.g_law_yes_due {K : Fr'} {mg : Str → Option Value} (T : Tx K mg) : mg "_law_yes_due" = some (.ref (He.ga K "_law_yes_due")) := by
  obtain ⟨h, X, G⟩ := T.h
  exact He.glo_ok X G (T.c.fact 32)
theorem Tx.g_law_loop_due {K : Fr'} {mg : Str → Option Value} (T : Tx K mg) : mg "_law_loop_due" = some (.ref (He.ga K "_law_loop_due")) := by
  obtain ⟨h, X, G⟩ := T.h
  exact He.glo_ok X G (T.c.fact 33)
theorem Tx.g_law_parts {K : Fr'} {mg : Str → Option Value} (T : Tx K mg) : mg "_law_parts" = some (.ref (He.ga K "_law_parts")) := by
  obtain ⟨h, X, G⟩ := T.h
  exact He.glo_ok X G (T.c.fact 34)
theorem Tx.g_law_bent {K : Fr'} {mg : Str → Option Value} (T : Tx K mg) : mg "_law_bent" = some (.ref (He.ga K "_law_bent")) := by
  obtain ⟨h, X, G⟩ := T.h
  exact He.glo_ok X G (T.c.fact 35)
theorem Tx.g_law_spoilt_line {K : Fr'} {mg : Str → Option Value} (T : Tx K mg) : mg "_law_spoilt_line" = some (.ref (He.ga K "_law_spoilt_line")) := by
  obtain ⟨h, X, G⟩ := T.h
  exact He.glo_ok X G (T.c.fact 36)
theorem Tx.g_law_spoilt {K : Fr'} {mg : Str → Option Value} (T : Tx K mg) : mg "_law_spoilt" = some (.ref (He.ga K "_law_spoilt")) := by
  obtain ⟨h, X, G⟩ := T.h
  exact He.glo_ok X G (T.c.fact 37)
theorem Tx.g_law_heard14 {K : Fr'} {mg : Str → Option Value} (T : Tx K mg) : mg "_law_heard" = some (.ref (He.ga K "_law_heard")) := by
  obtain ⟨h, X, G⟩ := T.h
  exact He.glo_ok X G (T.c.fact 38)
theorem Tx.g_law_parts_right {K : Fr'} {mg : Str → Option Value} (T : Tx K mg) : mg "_law_parts_right" = some (.ref (He.ga K "_law_parts_right")) := by
  obtain ⟨h, X, G⟩ := T.h
  exact He.glo_ok X G (T.c.fact 39)
theorem Tx.g_law_right14 {K : Fr'} {mg : Str → Option Value} (T : Tx K mg) : mg "_law_right" = some (.ref (He.ga K "_law_right")) := by
  obtain ⟨h, X, G⟩ := T.h
  exact He.glo_ok X G (T.c.fact 40)
theorem Tx.g_law_at_the_limit {K : Fr'} {mg : Str → Option Value} (T : Tx K mg) : mg "_law_at_the_limit" = some (.ref (He.ga K "_law_at_the_limit")) := by
  obtain ⟨h, X, G⟩ := T.h
  exact He.glo_ok X G (T.c.fact 41)
theorem Tx.g_law14 {K : Fr'} {mg : Str → Option Value} (T : Tx K mg) : mg "law" = some (.ref (He.ga K "law")) := by
  obtain ⟨h, X, G⟩ := T.h
  exact He.glo_ok X G (T.c.fact 42)
theorem Tx.g_InvalidRows {K : Fr'} {mg : Str → Option Value} (T : Tx K mg) : mg "InvalidRows" = some (.ref (He.ga K "InvalidRows")) := by
  obtain ⟨h, X, G⟩ := T.h
  exact He.glo_ok X G (T.c.fact 43)
theorem Tx.g_InvalidSigns {K : Fr'} {mg : Str → Option Value} (T : Tx K mg) : mg "InvalidSigns" = some (.ref (He.ga K "InvalidSigns")) := by
  obtain ⟨h, X, G⟩ := T.h
  exact He.glo_ok X G (T.c.fact 44)
theorem Tx.g_InvalidStates {K : Fr'} {mg : Str → Option Value} (T : Tx K mg) : mg "InvalidStates" = some (.ref (He.ga K "InvalidStates")) := by
  obtain ⟨h, X, G⟩ := T.h
  exact He.glo_ok X G (T.c.fact 45)
theorem Tx.g_InvalidTurns {K : Fr'} {mg : Str → Option Value} (T : Tx K mg) : mg "InvalidTurns" = some (.ref (He.ga K "InvalidTurns")) := by
  obtain ⟨h, X, G⟩ := T.h
  exact He.glo_ok X G (T.c.fact 46)
theorem Tx.g_LETTERS {K : Fr'} {mg : Str → Option Value} (T : Tx K mg) : ∃ t, mg "LETTERS" = some (.str "abcdefghijklmnopqrstuvwxyz" t) := by
  obtain ⟨h, X, G⟩ := T.h
  exact He.str_ok X G (T.c.fact 47)
theorem Tx.g_LONGEST_NAME {K : Fr'} {mg : Str → Option Value} (T : Tx K mg) : ∃ t, mg "LONGEST_NAME" = some (.int 8 t) := by
  obtain ⟨h, X, G⟩ := T.h
  exact He.int_ok X G (T.c.fact 48)
theorem Tx.g_Loop {K : Fr'} {mg : Str → Option Value} (T : Tx K mg) : mg "Loop" = some (.ref (He.ga K "Loop")) := by
  obtain ⟨h, X, G⟩ := T.h
  exact He.glo_ok X G (T.c.fact 49)
theorem Tx.g_MARKS {K : Fr'} {mg : Str → Option Value} (T : Tx K mg) : ∃ t, mg "MARKS" = some (.str "abcdefghijklmnopqrstuvwxyz0123456789" t) := by
  obtain ⟨h, X, G⟩ := T.h
  exact He.str_ok X G (T.c.fact 50)
theorem Tx.g_MOST_SIGNS {K : Fr'} {mg : Str → Option Value} (T : Tx K mg) : ∃ t, mg "MOST_SIGNS" = some (.int 4 t) := by
  obtain ⟨h, X, G⟩ := T.h
  exact He.int_ok X G (T.c.fact 51)
theorem Tx.g_MOST_STATES {K : Fr'} {mg : Str → Option Value} (T : Tx K mg) : ∃ t, mg "MOST_STATES" = some (.int 6 t) := by
  obtain ⟨h, X, G⟩ := T.h
  exact He.int_ok X G (T.c.fact 52)
theorem Tx.g_MOST_WORD {K : Fr'} {mg : Str → Option Value} (T : Tx K mg) : ∃ t, mg "MOST_WORD" = some (.int 600 t) := by
  obtain ⟨h, X, G⟩ := T.h
  exact He.int_ok X G (T.c.fact 53)
theorem Tx.n_abs {K : Fr'} {mg : Str → Option Value} (T : Tx K mg) : mg "abs" = none := by
  obtain ⟨h, X, G⟩ := T.h
  exact He.free_ok X G (T.c.fact 54)
theorem Tx.n_all {K : Fr'} {mg : Str → Option Value} (T : Tx K mg) : mg "all" = none := by
  obtain ⟨h, X, G⟩ := T.h
  exact He.free_ok X G (T.c.fact 55)
theorem Tx.n_bool {K : Fr'} {mg : Str → Option Value} (T : Tx K mg) : mg "bool" = none := by
  obtain ⟨h, X, G⟩ := T.h
  exact He.free_ok X G (T.c.fact 56)
theorem Tx.n_dict {K : Fr'} {mg : Str → Option Value} (T : Tx K mg) : mg "dict" = none := by
  obtain ⟨h, X, G⟩ := T.h
  exact He.free_ok X G (T.c.fact 57)
theorem Tx.n_divmod {K : Fr'} {mg : Str → Option Value} (T : Tx K mg) : mg "divmod" = none := by
  obtain ⟨h, X, G⟩ := T.h
  exact He.free_ok X G (T.c.fact 58)
theorem Tx.n_enumerate {K : Fr'} {mg : Str → Option Value} (T : Tx K mg) : mg "enumerate" = none := by
  obtain ⟨h, X, G⟩ := T.h
  exact He.free_ok X G (T.c.fact 59)
theorem Tx.n_int {K : Fr'} {mg : Str → Option Value} (T : Tx K mg) : mg "int" = none := by
  obtain ⟨h, X, G⟩ := T.h
  exact He.free_ok X G (T.c.fact 60)
theorem Tx.n_isinstance {K : Fr'} {mg : Str → Option Value} (T : Tx K mg) : mg "isinstance" = none := by
  obtain ⟨h, X, G⟩ := T.h
  exact He.free_ok X G (T.c.fact 61)
theorem Tx.n_len {K : Fr'} {mg : Str → Option Value} (T : Tx K mg) : mg "len" = none := by
  obtain ⟨h, X, G⟩ := T.h
  exact He.free_ok X G (T.c.fact 62)
theorem Tx.n_list {K : Fr'} {mg : Str → Option Value} (T : Tx K mg) : mg "list" = none := by
  obtain ⟨h, X, G⟩ := T.h
  exact He.free_ok X G (T.c.fact 63)
theorem Tx.n_max {K : Fr'} {mg : Str → Option Value} (T : Tx K mg) : mg "max" = none := by
  obtain ⟨h, X, G⟩ := T.h
  exact He.free_ok X G (T.c.fact 64)
theorem Tx.n_min {K : Fr'} {mg : Str → Option Value} (T : Tx K mg) : mg "min" = none := by
  obtain ⟨h, X, G⟩ := T.h
  exact He.free_ok X G (T.c.fact 65)
theorem Tx.n_range {K : Fr'} {mg : Str → Option Value} (T : Tx K mg) : mg "range" = none := by
  obtain ⟨h, X, G⟩ := T.h
  exact He.free_ok X G (T.c.fact 66)
theorem Tx.n_set {K : Fr'} {mg : Str → Option Value} (T : Tx K mg) : mg "set" = none := by
  obtain ⟨h, X, G⟩ := T.h
  exact He.free_ok X G (T.c.fact 67)
theorem Tx.n_sorted {K : Fr'} {mg : Str → Option Value} (T : Tx K mg) : mg "sorted" = none := by
  obtain ⟨h, X, G⟩ := T.h
  exact He.free_ok X G (T.c.fact 68)
theorem Tx.n_str {K : Fr'} {mg : Str → Option Value} (T : Tx K mg) : mg "str" = none := by
  obtain ⟨h, X, G⟩ := T.h
  exact He.free_ok X G (T.c.fact 69)
theorem Tx.n_tuple {K : Fr'} {mg : Str → Option Value} (T : Tx K mg) : mg "tuple" = none := by
  obtain ⟨h, X, G⟩ := T.h
  exact He.free_ok X G (T.c.fact 70)
theorem Tx.c_Loop {K : Fr'} {mg : Str → Option Value} (T : Tx K mg) : Cls K (He.ga K "Loop") := He.cls_ok (T.c.fact 71)
theorem Tx.na_Loop_letters {K : Fr'} {mg : Str → Option Value} (T : Tx K mg) : NoAttr K (He.ga K "Loop") "letters" := He.noat_ok (T.c.fact 72)
theorem Tx.na_Loop_order {K : Fr'} {mg : Str → Option Value} (T : Tx K mg) : NoAttr K (He.ga K "Loop") "order" := He.noat_ok (T.c.fact 73)
theorem Tx.na_Loop_table {K : Fr'} {mg : Str → Option Value} (T : Tx K mg) : NoAttr K (He.ga K "Loop") "table" := He.noat_ok (T.c.fact 74)
theorem Tx.na_Loop_ending {K : Fr'} {mg : Str → Option Value} (T : Tx K mg) : NoAttr K (He.ga K "Loop") "ending" := He.noat_ok (T.c.fact 75)
theorem Tx.na_Loop_marked {K : Fr'} {mg : Str → Option Value} (T : Tx K mg) : NoAttr K (He.ga K "Loop") "marked" := He.noat_ok (T.c.fact 76)
theorem Tx.mk_Loop {K : Fr'} {mg : Str → Option Value} (T : Tx K mg) : Mk K (He.ga K "Loop") (He.ma K (He.ga K "Loop") "__init__") := He.mkr_ok (T.c.fact 77)
theorem Tx.xk_InvalidSigns {K : Fr'} {mg : Str → Option Value} (T : Tx K mg) : ExcK K (He.ga K "InvalidSigns") (He.ma K (He.ga K "InvalidSigns") "__init__") "given" := excKB_ok (T.c.more 2)
theorem Tx.xk_InvalidStates {K : Fr'} {mg : Str → Option Value} (T : Tx K mg) : ExcK K (He.ga K "InvalidStates") (He.ma K (He.ga K "InvalidStates") "__init__") "index" := excKB_ok (T.c.more 3)
theorem Tx.xk_InvalidRows {K : Fr'} {mg : Str → Option Value} (T : Tx K mg) : ExcK K (He.ga K "InvalidRows") (He.ma K (He.ga K "InvalidRows") "__init__") "index" := excKB_ok (T.c.more 4)
theorem Tx.xk_InvalidTurns {K : Fr'} {mg : Str → Option Value} (T : Tx K mg) : ExcK K (He.ga K "InvalidTurns") (He.ma K (He.ga K "InvalidTurns") "__init__") "index" := excKB_ok (T.c.more 5)
theorem Tx.dfl0 {K : Fr'} {mg : Str → Option Value} (T : Tx K mg) : Dfl0 K := tup0B_ok (T.c.more 6)
theorem Tx.dfk0 {K : Fr'} {mg : Str → Option Value} (T : Tx K mg) : ∀ H : Hp, SqT K H (kwdAt ("Loop", some "__init__") "yes" K) [] := tup0B_ok (T.c.more 7)
theorem Tx.exm {K : Fr'} {mg : Str → Option Value} (T : Tx K mg) : ExmAll K ["InvalidSigns", "InvalidStates", "InvalidRows", "InvalidTurns"] := exmAllB_ok (T.c.more 8)
theorem Tx.loopK {K : Fr'} {mg : Str → Option Value} (T : Tx K mg) : LoopK K := ⟨T.c_Loop, T.na_Loop_letters, T.na_Loop_order, T.na_Loop_table, T.na_Loop_ending, T.na_Loop_marked⟩
theorem Tx.inX {K : Fr'} {mg : Str → Option Value} (T : Tx K mg) : InX K := ⟨T.xk_InvalidSigns, T.xk_InvalidStates, T.xk_InvalidRows, T.xk_InvalidTurns⟩
theorem Tx.f_is_integer {K : Fr'} {mg : Str → Option Value} (T : Tx K mg) : FunD K "is_integer" "is_integer" (defArgs st_is_integer) (defBody st_is_integer) (defScope st_is_integer) (d_is_integer.dvs K) (d_is_integer.kws K) (He.ga K "is_integer") (fdOf K (He.ga K "is_integer")) := T.c.def_ 0 (d := d_is_integer)
theorem Tx.k_is_integer {K : Fr'} {mg : Str → Option Value} (T : Tx K mg) : PySem.W.keepIn K (.ref (He.ga K "is_integer")) = true := T.f_is_integer.kp
theorem Tx.b_is_integer {K : Fr'} {mg : Str → Option Value} (T : Tx K mg) : Binds K (fdOf K (He.ga K "is_integer")) ["value"] [] := FunD.bindsN (kws := d_is_integer.kws K) (T.f_is_integer) fun _ _ _ _ _ _ us hl => match us, hl with | [_], _ => rfl
theorem Tx.f_is_name {K : Fr'} {mg : Str → Option Value} (T : Tx K mg) : FunD K "is_name" "is_name" (defArgs st_is_name) (defBody st_is_name) (defScope st_is_name) (d_is_name.dvs K) (d_is_name.kws K) (He.ga K "is_name") (fdOf K (He.ga K "is_name")) := T.c.def_ 1 (d := d_is_name)
theorem Tx.k_is_name {K : Fr'} {mg : Str → Option Value} (T : Tx K mg) : PySem.W.keepIn K (.ref (He.ga K "is_name")) = true := T.f_is_name.kp
theorem Tx.b_is_name {K : Fr'} {mg : Str → Option Value} (T : Tx K mg) : Binds K (fdOf K (He.ga K "is_name")) ["value"] [] := FunD.bindsN (kws := d_is_name.kws K) (T.f_is_name) fun _ _ _ _ _ _ us hl => match us, hl with | [_], _ => rfl
theorem Tx.f_is_word {K : Fr'} {mg : Str → Option Value} (T : Tx K mg) : FunD K "is_word" "is_word" (defArgs st_is_word) (defBody st_is_word) (defScope st_is_word) (d_is_word.dvs K) (d_is_word.kws K) (He.ga K "is_word") (fdOf K (He.ga K "is_word")) := T.c.def_ 2 (d := d_is_word)
theorem Tx.k_is_word {K : Fr'} {mg : Str → Option Value} (T : Tx K mg) : PySem.W.keepIn K (.ref (He.ga K "is_word")) = true := T.f_is_word.kp
theorem Tx.bf_is_word {K : Fr'} {mg : Str → Option Value} (T : Tx K mg) : Binds K (fdOf K (He.ga K "is_word")) ["value", "signs"] [] := by
  have h := FunD.binds1 (ps := ["value", "signs"]) (T.f_is_word) 2 1 (by simp [d_is_word, He5.DefA.dvs]) (by rfl) (fun _ _ _ _ _ _ _ us its h1 h2 => match us, its, h1, h2 with | [_, _], [_], _, _ => ⟨_, rfl, rfl⟩)
  obtain ⟨ds, hv, hb⟩ := h
  have e : (d_is_word.dvs K).drop 1 = [] := rfl
  rw [e] at hv
  cases hv
  exact hb
theorem Tx.bd1_is_word {K : Fr'} {mg : Str → Option Value} (T : Tx K mg) : ∃ ds, Vals [(vS LET)] ds ∧ Binds K (fdOf K (He.ga K "is_word")) ["value", "signs"] ds := by
  have h := FunD.binds1 (ps := ["value", "signs"]) (T.f_is_word) 1 0 (by simp [d_is_word, He5.DefA.dvs]) (by rfl) (fun _ _ _ _ _ _ _ us its h1 h2 => match us, its, h1, h2 with | [_], [_], _, _ => ⟨_, rfl, rfl⟩)
  obtain ⟨ds, hv, hb⟩ := h
  refine ⟨ds, ?_, hb⟩
  have e : (d_is_word.dvs K).drop 0 = [(vS LET)] := by
    simp only [d_is_word, He5.DefA.dvs, List.map, List.drop, He.Dv.v, lit_abc]
  rw [← e]
  exact hv
theorem Tx.f_is_row {K : Fr'} {mg : Str → Option Value} (T : Tx K mg) : FunD K "is_row" "is_row" (defArgs st_is_row) (defBody st_is_row) (defScope st_is_row) (d_is_row.dvs K) (d_is_row.kws K) (He.ga K "is_row") (fdOf K (He.ga K "is_row")) := T.c.def_ 3 (d := d_is_row)
theorem Tx.k_is_row {K : Fr'} {mg : Str → Option Value} (T : Tx K mg) : PySem.W.keepIn K (.ref (He.ga K "is_row")) = true := T.f_is_row.kp
theorem Tx.b_is_row {K : Fr'} {mg : Str → Option Value} (T : Tx K mg) : Binds K (fdOf K (He.ga K "is_row")) ["value", "length"] [] := FunD.bindsN (kws := d_is_row.kws K) (T.f_is_row) fun _ _ _ _ _ _ us hl => match us, hl with | [_, _], _ => rfl
theorem Tx.f_check_signs {K : Fr'} {mg : Str → Option Value} (T : Tx K mg) : FunD K "check_signs" "check_signs" (defArgs st_check_signs) (defBody st_check_signs) (defScope st_check_signs) (d_check_signs.dvs K) (d_check_signs.kws K) (He.ga K "check_signs") (fdOf K (He.ga K "check_signs")) := T.c.def_ 4 (d := d_check_signs)
theorem Tx.k_check_signs {K : Fr'} {mg : Str → Option Value} (T : Tx K mg) : PySem.W.keepIn K (.ref (He.ga K "check_signs")) = true := T.f_check_signs.kp
theorem Tx.b_check_signs {K : Fr'} {mg : Str → Option Value} (T : Tx K mg) : Binds K (fdOf K (He.ga K "check_signs")) ["signs"] [] := FunD.bindsN (kws := d_check_signs.kws K) (T.f_check_signs) fun _ _ _ _ _ _ us hl => match us, hl with | [_], _ => rfl
theorem Tx.f_is_step {K : Fr'} {mg : Str → Option Value} (T : Tx K mg) : FunD K "is_step" "is_step" (defArgs st_is_step) (defBody st_is_step) (defScope st_is_step) (d_is_step.dvs K) (d_is_step.kws K) (He.ga K "is_step") (fdOf K (He.ga K "is_step")) := T.c.def_ 5 (d := d_is_step)
theorem Tx.k_is_step {K : Fr'} {mg : Str → Option Value} (T : Tx K mg) : PySem.W.keepIn K (.ref (He.ga K "is_step")) = true := T.f_is_step.kp
theorem Tx.b_is_step {K : Fr'} {mg : Str → Option Value} (T : Tx K mg) : Binds K (fdOf K (He.ga K "is_step")) ["row", "signs", "states"] [] := FunD.bindsN (kws := d_is_step.kws K) (T.f_is_step) fun _ _ _ _ _ _ us hl => match us, hl with | [_, _, _], _ => rfl
theorem Tx.f_is_turn {K : Fr'} {mg : Str → Option Value} (T : Tx K mg) : FunD K "is_turn" "is_turn" (defArgs st_is_turn) (defBody st_is_turn) (defScope st_is_turn) (d_is_turn.dvs K) (d_is_turn.kws K) (He.ga K "is_turn") (fdOf K (He.ga K "is_turn")) := T.c.def_ 6 (d := d_is_turn)
theorem Tx.k_is_turn {K : Fr'} {mg : Str → Option Value} (T : Tx K mg) : PySem.W.keepIn K (.ref (He.ga K "is_turn")) = true := T.f_is_turn.kp
theorem Tx.b_is_turn {K : Fr'} {mg : Str → Option Value} (T : Tx K mg) : Binds K (fdOf K (He.ga K "is_turn")) ["turn", "states"] [] := FunD.bindsN (kws := d_is_turn.kws K) (T.f_is_turn) fun _ _ _ _ _ _ us hl => match us, hl with | [_, _], _ => rfl
theorem Tx.f_check_states {K : Fr'} {mg : Str → Option Value} (T : Tx K mg) : FunD K "check_states" "check_states" (defArgs st_check_states) (defBody st_check_states) (defScope st_check_states) (d_check_states.dvs K) (d_check_states.kws K) (He.ga K "check_states") (fdOf K (He.ga K "check_states")) := T.c.def_ 7 (d := d_check_states)
theorem Tx.k_check_states {K : Fr'} {mg : Str → Option Value} (T : Tx K mg) : PySem.W.keepIn K (.ref (He.ga K "check_states")) = true := T.f_check_states.kp
theorem Tx.b_check_states {K : Fr'} {mg : Str → Option Value} (T : Tx K mg) : Binds K (fdOf K (He.ga K "check_states")) ["states"] [] := FunD.bindsN (kws := d_check_states.kws K) (T.f_check_states) fun _ _ _ _ _ _ us hl => match us, hl with | [_], _ => rfl
theorem Tx.f_check_rows {K : Fr'} {mg : Str → Option Value} (T : Tx K mg) : FunD K "check_rows" "check_rows" (defArgs st_check_rows) (defBody st_check_rows) (defScope st_check_rows) (d_check_rows.dvs K) (d_check_rows.kws K) (He.ga K "check_rows") (fdOf K (He.ga K "check_rows")) := T.c.def_ 8 (d := d_check_rows)
theorem Tx.k_check_rows {K : Fr'} {mg : Str → Option Value} (T : Tx K mg) : PySem.W.keepIn K (.ref (He.ga K "check_rows")) = true := T.f_check_rows.kp
theorem Tx.b_check_rows {K : Fr'} {mg : Str → Option Value} (T : Tx K mg) : Binds K (fdOf K (He.ga K "check_rows")) ["signs", "states", "rows"] [] := FunD.bindsN (kws := d_check_rows.kws K) (T.f_check_rows) fun _ _ _ _ _ _ us hl => match us, hl with | [_, _, _], _ => rfl
theorem Tx.f_check_turns {K : Fr'} {mg : Str → Option Value} (T : Tx K mg) : FunD K "check_turns" "check_turns" (defArgs st_check_turns) (defBody st_check_turns) (defScope st_check_turns) (d_check_turns.dvs K) (d_check_turns.kws K) (He.ga K "check_turns") (fdOf K (He.ga K "check_turns")) := T.c.def_ 9 (d := d_check_turns)
theorem Tx.k_check_turns {K : Fr'} {mg : Str → Option Value} (T : Tx K mg) : PySem.W.keepIn K (.ref (He.ga K "check_turns")) = true := T.f_check_turns.kp
theorem Tx.b_check_turns {K : Fr'} {mg : Str → Option Value} (T : Tx K mg) : Binds K (fdOf K (He.ga K "check_turns")) ["states", "turns"] [] := FunD.bindsN (kws := d_check_turns.kws K) (T.f_check_turns) fun _ _ _ _ _ _ us hl => match us, hl with | [_, _], _ => rfl
theorem Tx.f_check_yes {K : Fr'} {mg : Str → Option Value} (T : Tx K mg) : FunD K "check_yes" "check_yes" (defArgs st_check_yes) (defBody st_check_yes) (defScope st_check_yes) (d_check_yes.dvs K) (d_check_yes.kws K) (He.ga K "check_yes") (fdOf K (He.ga K "check_yes")) := T.c.def_ 10 (d := d_check_yes)
theorem Tx.k_check_yes {K : Fr'} {mg : Str → Option Value} (T : Tx K mg) : PySem.W.keepIn K (.ref (He.ga K "check_yes")) = true := T.f_check_yes.kp
theorem Tx.b_check_yes {K : Fr'} {mg : Str → Option Value} (T : Tx K mg) : Binds K (fdOf K (He.ga K "check_yes")) ["states", "yes"] [] := FunD.bindsN (kws := d_check_yes.kws K) (T.f_check_yes) fun _ _ _ _ _ _ us hl => match us, hl with | [_, _], _ => rfl
theorem Tx.f_Loop_init {K : Fr'} {mg : Str → Option Value} (T : Tx K mg) : FunD K "__init__" "Loop.__init__" (defArgs st_Loop_init) (defBody st_Loop_init) (defScope st_Loop_init) (d_Loop_init.dvs K) (d_Loop_init.kws K) (He.ma K (He.ga K "Loop") "__init__") (fdOf K (He.ma K (He.ga K "Loop") "__init__")) := T.c.def_ 11 (d := d_Loop_init)
theorem Tx.f_law_cell {K : Fr'} {mg : Str → Option Value} (T : Tx K mg) : FunD K "_law_cell" "_law_cell" (defArgs st_law_cell) (defBody st_law_cell) (defScope st_law_cell) (d_law_cell.dvs K) (d_law_cell.kws K) (He.ga K "_law_cell") (fdOf K (He.ga K "_law_cell")) := T.c.def_ 12 (d := d_law_cell)
theorem Tx.k_law_cell {K : Fr'} {mg : Str → Option Value} (T : Tx K mg) : PySem.W.keepIn K (.ref (He.ga K "_law_cell")) = true := T.f_law_cell.kp
theorem Tx.b_law_cell {K : Fr'} {mg : Str → Option Value} (T : Tx K mg) : Binds K (fdOf K (He.ga K "_law_cell")) ["_law_script", "_law_k"] [] := FunD.bindsN (kws := d_law_cell.kws K) (T.f_law_cell) fun _ _ _ _ _ _ us hl => match us, hl with | [_, _], _ => rfl
theorem Tx.f_law_pool {K : Fr'} {mg : Str → Option Value} (T : Tx K mg) : FunD K "_law_pool" "_law_pool" (defArgs st_law_pool) (defBody st_law_pool) (defScope st_law_pool) (d_law_pool.dvs K) (d_law_pool.kws K) (He.ga K "_law_pool") (fdOf K (He.ga K "_law_pool")) := T.c.def_ 13 (d := d_law_pool)
theorem Tx.k_law_pool {K : Fr'} {mg : Str → Option Value} (T : Tx K mg) : PySem.W.keepIn K (.ref (He.ga K "_law_pool")) = true := T.f_law_pool.kp
theorem Tx.b_law_pool {K : Fr'} {mg : Str → Option Value} (T : Tx K mg) : Binds K (fdOf K (He.ga K "_law_pool")) ["_law_cell_here"] [] := FunD.bindsN (kws := d_law_pool.kws K) (T.f_law_pool) fun _ _ _ _ _ _ us hl => match us, hl with | [_], _ => rfl
theorem Tx.f_law_draw {K : Fr'} {mg : Str → Option Value} (T : Tx K mg) : FunD K "_law_draw" "_law_draw" (defArgs st_law_draw) (defBody st_law_draw) (defScope st_law_draw) (d_law_draw.dvs K) (d_law_draw.kws K) (He.ga K "_law_draw") (fdOf K (He.ga K "_law_draw")) := T.c.def_ 14 (d := d_law_draw)
theorem Tx.k_law_draw {K : Fr'} {mg : Str → Option Value} (T : Tx K mg) : PySem.W.keepIn K (.ref (He.ga K "_law_draw")) = true := T.f_law_draw.kp
theorem Tx.b_law_draw {K : Fr'} {mg : Str → Option Value} (T : Tx K mg) : Binds K (fdOf K (He.ga K "_law_draw")) ["_law_pool_here", "_law_many"] [] := FunD.bindsN (kws := d_law_draw.kws K) (T.f_law_draw) fun _ _ _ _ _ _ us hl => match us, hl with | [_, _], _ => rfl
theorem Tx.f_law_shufU {K : Fr'} {mg : Str → Option Value} (T : Tx K mg) : FunD K "_law_shuffled" "_law_shuffled" (defArgs st_law_shufU) (defBody st_law_shufU) (defScope st_law_shufU) (d_law_shufU.dvs K) (d_law_shufU.kws K) (He.ga K "_law_shuffled") (fdOf K (He.ga K "_law_shuffled")) := T.c.def_ 15 (d := d_law_shufU)
theorem Tx.k_law_shufU {K : Fr'} {mg : Str → Option Value} (T : Tx K mg) : PySem.W.keepIn K (.ref (He.ga K "_law_shuffled")) = true := T.f_law_shufU.kp
theorem Tx.b_law_shufU {K : Fr'} {mg : Str → Option Value} (T : Tx K mg) : Binds K (fdOf K (He.ga K "_law_shuffled")) ["_law_pool_here", "_law_things"] [] := FunD.bindsN (kws := d_law_shufU.kws K) (T.f_law_shufU) fun _ _ _ _ _ _ us hl => match us, hl with | [_, _], _ => rfl
theorem Tx.f_law_faceX {K : Fr'} {mg : Str → Option Value} (T : Tx K mg) : FunD K "_law_face" "_law_face" (defArgs st_law_faceX) (defBody st_law_faceX) (defScope st_law_faceX) (d_law_faceX.dvs K) (d_law_faceX.kws K) (He.ga K "_law_face") (fdOf K (He.ga K "_law_face")) := T.c.def_ 16 (d := d_law_faceX)
theorem Tx.k_law_faceX {K : Fr'} {mg : Str → Option Value} (T : Tx K mg) : PySem.W.keepIn K (.ref (He.ga K "_law_face")) = true := T.f_law_faceX.kp
theorem Tx.b_law_faceX {K : Fr'} {mg : Str → Option Value} (T : Tx K mg) : Binds K (fdOf K (He.ga K "_law_face")) ["_law_thing"] [] := FunD.bindsN (kws := d_law_faceX.kws K) (T.f_law_faceX) fun _ _ _ _ _ _ us hl => match us, hl with | [_], _ => rfl
theorem Tx.f_law_wholeK {K : Fr'} {mg : Str → Option Value} (T : Tx K mg) : FunD K "_law_whole" "_law_whole" (defArgs st_law_wholeK) (defBody st_law_wholeK) (defScope st_law_wholeK) (d_law_wholeK.dvs K) (d_law_wholeK.kws K) (He.ga K "_law_whole") (fdOf K (He.ga K "_law_whole")) := T.c.def_ 17 (d := d_law_wholeK)
theorem Tx.k_law_wholeK {K : Fr'} {mg : Str → Option Value} (T : Tx K mg) : PySem.W.keepIn K (.ref (He.ga K "_law_whole")) = true := T.f_law_wholeK.kp
theorem Tx.b_law_wholeK {K : Fr'} {mg : Str → Option Value} (T : Tx K mg) : Binds K (fdOf K (He.ga K "_law_whole")) ["_law_thing"] [] := FunD.bindsN (kws := d_law_wholeK.kws K) (T.f_law_wholeK) fun _ _ _ _ _ _ us hl => match us, hl with | [_], _ => rfl
theorem Tx.f_law_oddM {K : Fr'} {mg : Str → Option Value} (T : Tx K mg) : FunD K "_law_odd" "_law_odd" (defArgs st_law_oddM) (defBody st_law_oddM) (defScope st_law_oddM) (d_law_oddM.dvs K) (d_law_oddM.kws K) (He.ga K "_law_odd") (fdOf K (He.ga K "_law_odd")) := T.c.def_ 18 (d := d_law_oddM)
theorem Tx.k_law_oddM {K : Fr'} {mg : Str → Option Value} (T : Tx K mg) : PySem.W.keepIn K (.ref (He.ga K "_law_odd")) = true := T.f_law_oddM.kp
theorem Tx.b_law_oddM {K : Fr'} {mg : Str → Option Value} (T : Tx K mg) : Binds K (fdOf K (He.ga K "_law_odd")) ["_law_pool_here"] [] := FunD.bindsN (kws := d_law_oddM.kws K) (T.f_law_oddM) fun _ _ _ _ _ _ us hl => match us, hl with | [_], _ => rfl
theorem Tx.f_law_signs {K : Fr'} {mg : Str → Option Value} (T : Tx K mg) : FunD K "_law_signs" "_law_signs" (defArgs st_law_signs) (defBody st_law_signs) (defScope st_law_signs) (d_law_signs.dvs K) (d_law_signs.kws K) (He.ga K "_law_signs") (fdOf K (He.ga K "_law_signs")) := T.c.def_ 19 (d := d_law_signs)
theorem Tx.k_law_signs {K : Fr'} {mg : Str → Option Value} (T : Tx K mg) : PySem.W.keepIn K (.ref (He.ga K "_law_signs")) = true := T.f_law_signs.kp
theorem Tx.b_law_signs {K : Fr'} {mg : Str → Option Value} (T : Tx K mg) : Binds K (fdOf K (He.ga K "_law_signs")) ["_law_pool_here", "_law_most"] [] := FunD.bindsN (kws := d_law_signs.kws K) (T.f_law_signs) fun _ _ _ _ _ _ us hl => match us, hl with | [_, _], _ => rfl
theorem Tx.f_law_is_word {K : Fr'} {mg : Str → Option Value} (T : Tx K mg) : FunD K "_law_is_word" "_law_is_word" (defArgs st_law_is_word) (defBody st_law_is_word) (defScope st_law_is_word) (d_law_is_word.dvs K) (d_law_is_word.kws K) (He.ga K "_law_is_word") (fdOf K (He.ga K "_law_is_word")) := T.c.def_ 20 (d := d_law_is_word)
theorem Tx.k_law_is_word {K : Fr'} {mg : Str → Option Value} (T : Tx K mg) : PySem.W.keepIn K (.ref (He.ga K "_law_is_word")) = true := T.f_law_is_word.kp
theorem Tx.b_law_is_word {K : Fr'} {mg : Str → Option Value} (T : Tx K mg) : Binds K (fdOf K (He.ga K "_law_is_word")) ["_law_thing", "_law_abc"] [] := FunD.bindsN (kws := d_law_is_word.kws K) (T.f_law_is_word) fun _ _ _ _ _ _ us hl => match us, hl with | [_, _], _ => rfl
theorem Tx.f_law_name {K : Fr'} {mg : Str → Option Value} (T : Tx K mg) : FunD K "_law_name" "_law_name" (defArgs st_law_name) (defBody st_law_name) (defScope st_law_name) (d_law_name.dvs K) (d_law_name.kws K) (He.ga K "_law_name") (fdOf K (He.ga K "_law_name")) := T.c.def_ 21 (d := d_law_name)
theorem Tx.k_law_name {K : Fr'} {mg : Str → Option Value} (T : Tx K mg) : PySem.W.keepIn K (.ref (He.ga K "_law_name")) = true := T.f_law_name.kp
theorem Tx.b_law_name {K : Fr'} {mg : Str → Option Value} (T : Tx K mg) : Binds K (fdOf K (He.ga K "_law_name")) ["_law_pool_here", "_law_found"] [] := FunD.bindsN (kws := d_law_name.kws K) (T.f_law_name) fun _ _ _ _ _ _ us hl => match us, hl with | [_, _], _ => rfl
theorem Tx.f_law_names {K : Fr'} {mg : Str → Option Value} (T : Tx K mg) : FunD K "_law_names" "_law_names" (defArgs st_law_names) (defBody st_law_names) (defScope st_law_names) (d_law_names.dvs K) (d_law_names.kws K) (He.ga K "_law_names") (fdOf K (He.ga K "_law_names")) := T.c.def_ 22 (d := d_law_names)
theorem Tx.k_law_names {K : Fr'} {mg : Str → Option Value} (T : Tx K mg) : PySem.W.keepIn K (.ref (He.ga K "_law_names")) = true := T.f_law_names.kp
theorem Tx.b_law_names {K : Fr'} {mg : Str → Option Value} (T : Tx K mg) : Binds K (fdOf K (He.ga K "_law_names")) ["_law_pool_here", "_law_many"] [] := FunD.bindsN (kws := d_law_names.kws K) (T.f_law_names) fun _ _ _ _ _ _ us hl => match us, hl with | [_, _], _ => rfl
theorem Tx.f_law_amount {K : Fr'} {mg : Str → Option Value} (T : Tx K mg) : FunD K "_law_amount" "_law_amount" (defArgs st_law_amount) (defBody st_law_amount) (defScope st_law_amount) (d_law_amount.dvs K) (d_law_amount.kws K) (He.ga K "_law_amount") (fdOf K (He.ga K "_law_amount")) := T.c.def_ 23 (d := d_law_amount)
theorem Tx.k_law_amount {K : Fr'} {mg : Str → Option Value} (T : Tx K mg) : PySem.W.keepIn K (.ref (He.ga K "_law_amount")) = true := T.f_law_amount.kp
theorem Tx.b_law_amount {K : Fr'} {mg : Str → Option Value} (T : Tx K mg) : Binds K (fdOf K (He.ga K "_law_amount")) ["_law_pool_here", "_law_great"] [] := FunD.bindsN (kws := d_law_amount.kws K) (T.f_law_amount) fun _ _ _ _ _ _ us hl => match us, hl with | [_, _], _ => rfl
theorem Tx.f_law_model {K : Fr'} {mg : Str → Option Value} (T : Tx K mg) : FunD K "_law_model" "_law_model" (defArgs st_law_model) (defBody st_law_model) (defScope st_law_model) (d_law_model.dvs K) (d_law_model.kws K) (He.ga K "_law_model") (fdOf K (He.ga K "_law_model")) := T.c.def_ 24 (d := d_law_model)
theorem Tx.k_law_model {K : Fr'} {mg : Str → Option Value} (T : Tx K mg) : PySem.W.keepIn K (.ref (He.ga K "_law_model")) = true := T.f_law_model.kp
theorem Tx.b_law_model {K : Fr'} {mg : Str → Option Value} (T : Tx K mg) : Binds K (fdOf K (He.ga K "_law_model")) ["_law_pool_here", "_law_abc", "_law_most", "_law_great"] [] := FunD.bindsN (kws := d_law_model.kws K) (T.f_law_model) fun _ _ _ _ _ _ us hl => match us, hl with | [_, _, _, _], _ => rfl
theorem Tx.f_law_lineF {K : Fr'} {mg : Str → Option Value} (T : Tx K mg) : FunD K "_law_line" "_law_line" (defArgs st_law_lineF) (defBody st_law_lineF) (defScope st_law_lineF) (d_law_lineF.dvs K) (d_law_lineF.kws K) (He.ga K "_law_line") (fdOf K (He.ga K "_law_line")) := T.c.def_ 25 (d := d_law_lineF)
theorem Tx.k_law_lineF {K : Fr'} {mg : Str → Option Value} (T : Tx K mg) : PySem.W.keepIn K (.ref (He.ga K "_law_line")) = true := T.f_law_lineF.kp
theorem Tx.b_law_lineF {K : Fr'} {mg : Str → Option Value} (T : Tx K mg) : Binds K (fdOf K (He.ga K "_law_line")) ["_law_model_here"] [] := FunD.bindsN (kws := d_law_lineF.kws K) (T.f_law_lineF) fun _ _ _ _ _ _ us hl => match us, hl with | [_], _ => rfl
theorem Tx.f_law_is_name {K : Fr'} {mg : Str → Option Value} (T : Tx K mg) : FunD K "_law_is_name" "_law_is_name" (defArgs st_law_is_name) (defBody st_law_is_name) (defScope st_law_is_name) (d_law_is_name.dvs K) (d_law_is_name.kws K) (He.ga K "_law_is_name") (fdOf K (He.ga K "_law_is_name")) := T.c.def_ 26 (d := d_law_is_name)
theorem Tx.k_law_is_name {K : Fr'} {mg : Str → Option Value} (T : Tx K mg) : PySem.W.keepIn K (.ref (He.ga K "_law_is_name")) = true := T.f_law_is_name.kp
theorem Tx.b_law_is_name {K : Fr'} {mg : Str → Option Value} (T : Tx K mg) : Binds K (fdOf K (He.ga K "_law_is_name")) ["_law_thing"] [] := FunD.bindsN (kws := d_law_is_name.kws K) (T.f_law_is_name) fun _ _ _ _ _ _ us hl => match us, hl with | [_], _ => rfl
theorem Tx.f_law_is_step27 {K : Fr'} {mg : Str → Option Value} (T : Tx K mg) : FunD K "_law_is_step" "_law_is_step" (defArgs st_law_is_step27) (defBody st_law_is_step27) (defScope st_law_is_step27) (d_law_is_step27.dvs K) (d_law_is_step27.kws K) (He.ga K "_law_is_step") (fdOf K (He.ga K "_law_is_step")) := T.c.def_ 27 (d := d_law_is_step27)
theorem Tx.k_law_is_step27 {K : Fr'} {mg : Str → Option Value} (T : Tx K mg) : PySem.W.keepIn K (.ref (He.ga K "_law_is_step")) = true := T.f_law_is_step27.kp
theorem Tx.b_law_is_step27 {K : Fr'} {mg : Str → Option Value} (T : Tx K mg) : Binds K (fdOf K (He.ga K "_law_is_step")) ["_law_line_here", "_law_abc", "_law_posts"] [] := FunD.bindsN (kws := d_law_is_step27.kws K) (T.f_law_is_step27) fun _ _ _ _ _ _ us hl => match us, hl with | [_, _, _], _ => rfl
theorem Tx.f_law_is_end27 {K : Fr'} {mg : Str → Option Value} (T : Tx K mg) : FunD K "_law_is_end" "_law_is_end" (defArgs st_law_is_end27) (defBody st_law_is_end27) (defScope st_law_is_end27) (d_law_is_end27.dvs K) (d_law_is_end27.kws K) (He.ga K "_law_is_end") (fdOf K (He.ga K "_law_is_end")) := T.c.def_ 28 (d := d_law_is_end27)
theorem Tx.k_law_is_end27 {K : Fr'} {mg : Str → Option Value} (T : Tx K mg) : PySem.W.keepIn K (.ref (He.ga K "_law_is_end")) = true := T.f_law_is_end27.kp
theorem Tx.b_law_is_end27 {K : Fr'} {mg : Str → Option Value} (T : Tx K mg) : Binds K (fdOf K (He.ga K "_law_is_end")) ["_law_line_here", "_law_posts"] [] := FunD.bindsN (kws := d_law_is_end27.kws K) (T.f_law_is_end27) fun _ _ _ _ _ _ us hl => match us, hl with | [_, _], _ => rfl
theorem Tx.f_law_bad_signs {K : Fr'} {mg : Str → Option Value} (T : Tx K mg) : FunD K "_law_bad_signs" "_law_bad_signs" (defArgs st_law_bad_signs) (defBody st_law_bad_signs) (defScope st_law_bad_signs) (d_law_bad_signs.dvs K) (d_law_bad_signs.kws K) (He.ga K "_law_bad_signs") (fdOf K (He.ga K "_law_bad_signs")) := T.c.def_ 29 (d := d_law_bad_signs)
theorem Tx.k_law_bad_signs {K : Fr'} {mg : Str → Option Value} (T : Tx K mg) : PySem.W.keepIn K (.ref (He.ga K "_law_bad_signs")) = true := T.f_law_bad_signs.kp
theorem Tx.b_law_bad_signs {K : Fr'} {mg : Str → Option Value} (T : Tx K mg) : Binds K (fdOf K (He.ga K "_law_bad_signs")) ["_law_abc"] [] := FunD.bindsN (kws := d_law_bad_signs.kws K) (T.f_law_bad_signs) fun _ _ _ _ _ _ us hl => match us, hl with | [_], _ => rfl
theorem Tx.f_law_states_due {K : Fr'} {mg : Str → Option Value} (T : Tx K mg) : FunD K "_law_states_due" "_law_states_due" (defArgs st_law_states_due) (defBody st_law_states_due) (defScope st_law_states_due) (d_law_states_due.dvs K) (d_law_states_due.kws K) (He.ga K "_law_states_due") (fdOf K (He.ga K "_law_states_due")) := T.c.def_ 30 (d := d_law_states_due)
theorem Tx.k_law_states_due {K : Fr'} {mg : Str → Option Value} (T : Tx K mg) : PySem.W.keepIn K (.ref (He.ga K "_law_states_due")) = true := T.f_law_states_due.kp
theorem Tx.b_law_states_due {K : Fr'} {mg : Str → Option Value} (T : Tx K mg) : Binds K (fdOf K (He.ga K "_law_states_due")) ["_law_posts"] [] := FunD.bindsN (kws := d_law_states_due.kws K) (T.f_law_states_due) fun _ _ _ _ _ _ us hl => match us, hl with | [_], _ => rfl
theorem Tx.f_law_rows_due {K : Fr'} {mg : Str → Option Value} (T : Tx K mg) : FunD K "_law_rows_due" "_law_rows_due" (defArgs st_law_rows_due) (defBody st_law_rows_due) (defScope st_law_rows_due) (d_law_rows_due.dvs K) (d_law_rows_due.kws K) (He.ga K "_law_rows_due") (fdOf K (He.ga K "_law_rows_due")) := T.c.def_ 31 (d := d_law_rows_due)
theorem Tx.k_law_rows_due {K : Fr'} {mg : Str → Option Value} (T : Tx K mg) : PySem.W.keepIn K (.ref (He.ga K "_law_rows_due")) = true := T.f_law_rows_due.kp
theorem Tx.b_law_rows_due {K : Fr'} {mg : Str → Option Value} (T : Tx K mg) : Binds K (fdOf K (He.ga K "_law_rows_due")) ["_law_abc", "_law_posts", "_law_lines"] [] := FunD.bindsN (kws := d_law_rows_due.kws K) (T.f_law_rows_due) fun _ _ _ _ _ _ us hl => match us, hl with | [_, _, _], _ => rfl
theorem Tx.f_law_ends_due {K : Fr'} {mg : Str → Option Value} (T : Tx K mg) : FunD K "_law_ends_due" "_law_ends_due" (defArgs st_law_ends_due) (defBody st_law_ends_due) (defScope st_law_ends_due) (d_law_ends_due.dvs K) (d_law_ends_due.kws K) (He.ga K "_law_ends_due") (fdOf K (He.ga K "_law_ends_due")) := T.c.def_ 32 (d := d_law_ends_due)
theorem Tx.k_law_ends_due {K : Fr'} {mg : Str → Option Value} (T : Tx K mg) : PySem.W.keepIn K (.ref (He.ga K "_law_ends_due")) = true := T.f_law_ends_due.kp
theorem Tx.b_law_ends_due {K : Fr'} {mg : Str → Option Value} (T : Tx K mg) : Binds K (fdOf K (He.ga K "_law_ends_due")) ["_law_posts", "_law_ends"] [] := FunD.bindsN (kws := d_law_ends_due.kws K) (T.f_law_ends_due) fun _ _ _ _ _ _ us hl => match us, hl with | [_, _], _ => rfl
theorem Tx.f_law_yes_due {K : Fr'} {mg : Str → Option Value} (T : Tx K mg) : FunD K "_law_yes_due" "_law_yes_due" (defArgs st_law_yes_due) (defBody st_law_yes_due) (defScope st_law_yes_due) (d_law_yes_due.dvs K) (d_law_yes_due.kws K) (He.ga K "_law_yes_due") (fdOf K (He.ga K "_law_yes_due")) := T.c.def_ 33 (d := d_law_yes_due)
theorem Tx.k_law_yes_due {K : Fr'} {mg : Str → Option Value} (T : Tx K mg) : PySem.W.keepIn K (.ref (He.ga K "_law_yes_due")) = true := T.f_law_yes_due.kp
theorem Tx.b_law_yes_due {K : Fr'} {mg : Str → Option Value} (T : Tx K mg) : Binds K (fdOf K (He.ga K "_law_yes_due")) ["_law_posts", "_law_oks"] [] := FunD.bindsN (kws := d_law_yes_due.kws K) (T.f_law_yes_due) fun _ _ _ _ _ _ us hl => match us, hl with | [_, _], _ => rfl
theorem Tx.f_law_loop_due {K : Fr'} {mg : Str → Option Value} (T : Tx K mg) : FunD K "_law_loop_due" "_law_loop_due" (defArgs st_law_loop_due) (defBody st_law_loop_due) (defScope st_law_loop_due) (d_law_loop_due.dvs K) (d_law_loop_due.kws K) (He.ga K "_law_loop_due") (fdOf K (He.ga K "_law_loop_due")) := T.c.def_ 34 (d := d_law_loop_due)
theorem Tx.k_law_loop_due {K : Fr'} {mg : Str → Option Value} (T : Tx K mg) : PySem.W.keepIn K (.ref (He.ga K "_law_loop_due")) = true := T.f_law_loop_due.kp
theorem Tx.b_law_loop_due {K : Fr'} {mg : Str → Option Value} (T : Tx K mg) : Binds K (fdOf K (He.ga K "_law_loop_due")) ["_law_parts_here"] [] := FunD.bindsN (kws := d_law_loop_due.kws K) (T.f_law_loop_due) fun _ _ _ _ _ _ us hl => match us, hl with | [_], _ => rfl
theorem Tx.f_law_parts {K : Fr'} {mg : Str → Option Value} (T : Tx K mg) : FunD K "_law_parts" "_law_parts" (defArgs st_law_parts) (defBody st_law_parts) (defScope st_law_parts) (d_law_parts.dvs K) (d_law_parts.kws K) (He.ga K "_law_parts") (fdOf K (He.ga K "_law_parts")) := T.c.def_ 35 (d := d_law_parts)
theorem Tx.k_law_parts {K : Fr'} {mg : Str → Option Value} (T : Tx K mg) : PySem.W.keepIn K (.ref (He.ga K "_law_parts")) = true := T.f_law_parts.kp
theorem Tx.b_law_parts {K : Fr'} {mg : Str → Option Value} (T : Tx K mg) : Binds K (fdOf K (He.ga K "_law_parts")) ["_law_pool_here", "_law_model_here"] [] := FunD.bindsN (kws := d_law_parts.kws K) (T.f_law_parts) fun _ _ _ _ _ _ us hl => match us, hl with | [_, _], _ => rfl
theorem Tx.f_law_bent {K : Fr'} {mg : Str → Option Value} (T : Tx K mg) : FunD K "_law_bent" "_law_bent" (defArgs st_law_bent) (defBody st_law_bent) (defScope st_law_bent) (d_law_bent.dvs K) (d_law_bent.kws K) (He.ga K "_law_bent") (fdOf K (He.ga K "_law_bent")) := T.c.def_ 36 (d := d_law_bent)
theorem Tx.k_law_bent {K : Fr'} {mg : Str → Option Value} (T : Tx K mg) : PySem.W.keepIn K (.ref (He.ga K "_law_bent")) = true := T.f_law_bent.kp
theorem Tx.b_law_bent {K : Fr'} {mg : Str → Option Value} (T : Tx K mg) : Binds K (fdOf K (He.ga K "_law_bent")) ["_law_pool_here", "_law_some", "_law_odd_here"] [] := FunD.bindsN (kws := d_law_bent.kws K) (T.f_law_bent) fun _ _ _ _ _ _ us hl => match us, hl with | [_, _, _], _ => rfl
theorem Tx.f_law_spoilt_line {K : Fr'} {mg : Str → Option Value} (T : Tx K mg) : FunD K "_law_spoilt_line" "_law_spoilt_line" (defArgs st_law_spoilt_line) (defBody st_law_spoilt_line) (defScope st_law_spoilt_line) (d_law_spoilt_line.dvs K) (d_law_spoilt_line.kws K) (He.ga K "_law_spoilt_line") (fdOf K (He.ga K "_law_spoilt_line")) := T.c.def_ 37 (d := d_law_spoilt_line)
theorem Tx.k_law_spoilt_line {K : Fr'} {mg : Str → Option Value} (T : Tx K mg) : PySem.W.keepIn K (.ref (He.ga K "_law_spoilt_line")) = true := T.f_law_spoilt_line.kp
theorem Tx.b_law_spoilt_line {K : Fr'} {mg : Str → Option Value} (T : Tx K mg) : Binds K (fdOf K (He.ga K "_law_spoilt_line")) ["_law_pool_here", "_law_some", "_law_posts"] [] := FunD.bindsN (kws := d_law_spoilt_line.kws K) (T.f_law_spoilt_line) fun _ _ _ _ _ _ us hl => match us, hl with | [_, _, _], _ => rfl
theorem Tx.f_law_spoilt {K : Fr'} {mg : Str → Option Value} (T : Tx K mg) : FunD K "_law_spoilt" "_law_spoilt" (defArgs st_law_spoilt) (defBody st_law_spoilt) (defScope st_law_spoilt) (d_law_spoilt.dvs K) (d_law_spoilt.kws K) (He.ga K "_law_spoilt") (fdOf K (He.ga K "_law_spoilt")) := T.c.def_ 38 (d := d_law_spoilt)
theorem Tx.k_law_spoilt {K : Fr'} {mg : Str → Option Value} (T : Tx K mg) : PySem.W.keepIn K (.ref (He.ga K "_law_spoilt")) = true := T.f_law_spoilt.kp
theorem Tx.b_law_spoilt {K : Fr'} {mg : Str → Option Value} (T : Tx K mg) : Binds K (fdOf K (He.ga K "_law_spoilt")) ["_law_pool_here", "_law_parts_here", "_law_which"] [] := FunD.bindsN (kws := d_law_spoilt.kws K) (T.f_law_spoilt) fun _ _ _ _ _ _ us hl => match us, hl with | [_, _, _], _ => rfl
theorem Tx.f_law_heard14 {K : Fr'} {mg : Str → Option Value} (T : Tx K mg) : FunD K "_law_heard" "_law_heard" (defArgs st_law_heard14) (defBody st_law_heard14) (defScope st_law_heard14) (d_law_heard14.dvs K) (d_law_heard14.kws K) (He.ga K "_law_heard") (fdOf K (He.ga K "_law_heard")) := T.c.def_ 39 (d := d_law_heard14)
theorem Tx.b_law_heard14 {K : Fr'} {mg : Str → Option Value} (T : Tx K mg) : Binds K (fdOf K (He.ga K "_law_heard")) ["_law_act"] [] := FunD.bindsN (kws := d_law_heard14.kws K) (T.f_law_heard14) fun _ _ _ _ _ _ us hl => match us, hl with | [_], _ => rfl
theorem Tx.f_law_parts_right {K : Fr'} {mg : Str → Option Value} (T : Tx K mg) : FunD K "_law_parts_right" "_law_parts_right" (defArgs st_law_parts_right) (defBody st_law_parts_right) (defScope st_law_parts_right) (d_law_parts_right.dvs K) (d_law_parts_right.kws K) (He.ga K "_law_parts_right") (fdOf K (He.ga K "_law_parts_right")) := T.c.def_ 40 (d := d_law_parts_right)
theorem Tx.k_law_parts_right {K : Fr'} {mg : Str → Option Value} (T : Tx K mg) : PySem.W.keepIn K (.ref (He.ga K "_law_parts_right")) = true := T.f_law_parts_right.kp
theorem Tx.b_law_parts_right {K : Fr'} {mg : Str → Option Value} (T : Tx K mg) : Binds K (fdOf K (He.ga K "_law_parts_right")) ["_law_parts_here"] [] := FunD.bindsN (kws := d_law_parts_right.kws K) (T.f_law_parts_right) fun _ _ _ _ _ _ us hl => match us, hl with | [_], _ => rfl
theorem Tx.f_law_right14 {K : Fr'} {mg : Str → Option Value} (T : Tx K mg) : FunD K "_law_right" "_law_right" (defArgs st_law_right14) (defBody st_law_right14) (defScope st_law_right14) (d_law_right14.dvs K) (d_law_right14.kws K) (He.ga K "_law_right") (fdOf K (He.ga K "_law_right")) := T.c.def_ 41 (d := d_law_right14)
theorem Tx.k_law_right14 {K : Fr'} {mg : Str → Option Value} (T : Tx K mg) : PySem.W.keepIn K (.ref (He.ga K "_law_right")) = true := T.f_law_right14.kp
theorem Tx.b_law_right14 {K : Fr'} {mg : Str → Option Value} (T : Tx K mg) : Binds K (fdOf K (He.ga K "_law_right")) ["_law_pool_here"] [] := FunD.bindsN (kws := d_law_right14.kws K) (T.f_law_right14) fun _ _ _ _ _ _ us hl => match us, hl with | [_], _ => rfl
theorem Tx.f_law_at_the_limit {K : Fr'} {mg : Str → Option Value} (T : Tx K mg) : FunD K "_law_at_the_limit" "_law_at_the_limit" (defArgs st_law_at_the_limit) (defBody st_law_at_the_limit) (defScope st_law_at_the_limit) (d_law_at_the_limit.dvs K) (d_law_at_the_limit.kws K) (He.ga K "_law_at_the_limit") (fdOf K (He.ga K "_law_at_the_limit")) := T.c.def_ 42 (d := d_law_at_the_limit)
theorem Tx.k_law_at_the_limit {K : Fr'} {mg : Str → Option Value} (T : Tx K mg) : PySem.W.keepIn K (.ref (He.ga K "_law_at_the_limit")) = true := T.f_law_at_the_limit.kp
theorem Tx.b_law_at_the_limit {K : Fr'} {mg : Str → Option Value} (T : Tx K mg) : Binds K (fdOf K (He.ga K "_law_at_the_limit")) [] [] := FunD.bindsN (kws := d_law_at_the_limit.kws K) (T.f_law_at_the_limit) fun _ _ _ _ _ _ us hl => match us, hl with | [], _ => rfl
theorem Tx.f_law14 {K : Fr'} {mg : Str → Option Value} (T : Tx K mg) : FunD K "law" "law" (defArgs st_law14) (defBody st_law14) (defScope st_law14) (d_law14.dvs K) (d_law14.kws K) (He.ga K "law") (fdOf K (He.ga K "law")) := T.c.def_ 43 (d := d_law14)
theorem Tx.f_InvalidSigns_init {K : Fr'} {mg : Str → Option Value} (T : Tx K mg) : FunD K "__init__" "InvalidSigns.__init__" (defArgs st_InvalidSigns_init) (defBody st_InvalidSigns_init) (defScope st_InvalidSigns_init) (d_InvalidSigns_init.dvs K) (d_InvalidSigns_init.kws K) (He.ma K (He.ga K "InvalidSigns") "__init__") (fdOf K (He.ma K (He.ga K "InvalidSigns") "__init__")) := T.c.def_ 44 (d := d_InvalidSigns_init)
theorem Tx.b_InvalidSigns_init {K : Fr'} {mg : Str → Option Value} (T : Tx K mg) : Binds K (fdOf K (He.ma K (He.ga K "InvalidSigns") "__init__")) ["self", "given"] [] := FunD.bindsN (kws := d_InvalidSigns_init.kws K) (T.f_InvalidSigns_init) fun _ _ _ _ _ _ us hl => match us, hl with | [_, _], _ => rfl
theorem Tx.f_InvalidStates_init {K : Fr'} {mg : Str → Option Value} (T : Tx K mg) : FunD K "__init__" "InvalidStates.__init__" (defArgs st_InvalidStates_init) (defBody st_InvalidStates_init) (defScope st_InvalidStates_init) (d_InvalidStates_init.dvs K) (d_InvalidStates_init.kws K) (He.ma K (He.ga K "InvalidStates") "__init__") (fdOf K (He.ma K (He.ga K "InvalidStates") "__init__")) := T.c.def_ 45 (d := d_InvalidStates_init)
theorem Tx.b_InvalidStates_init {K : Fr'} {mg : Str → Option Value} (T : Tx K mg) : Binds K (fdOf K (He.ma K (He.ga K "InvalidStates") "__init__")) ["self", "index"] [] := FunD.bindsN (kws := d_InvalidStates_init.kws K) (T.f_InvalidStates_init) fun _ _ _ _ _ _ us hl => match us, hl with | [_, _], _ => rfl
theorem Tx.f_InvalidRows_init {K : Fr'} {mg : Str → Option Value} (T : Tx K mg) : FunD K "__init__" "InvalidRows.__init__" (defArgs st_InvalidRows_init) (defBody st_InvalidRows_init) (defScope st_InvalidRows_init) (d_InvalidRows_init.dvs K) (d_InvalidRows_init.kws K) (He.ma K (He.ga K "InvalidRows") "__init__") (fdOf K (He.ma K (He.ga K "InvalidRows") "__init__")) := T.c.def_ 46 (d := d_InvalidRows_init)
theorem Tx.b_InvalidRows_init {K : Fr'} {mg : Str → Option Value} (T : Tx K mg) : Binds K (fdOf K (He.ma K (He.ga K "InvalidRows") "__init__")) ["self", "index"] [] := FunD.bindsN (kws := d_InvalidRows_init.kws K) (T.f_InvalidRows_init) fun _ _ _ _ _ _ us hl => match us, hl with | [_, _], _ => rfl
theorem Tx.f_InvalidTurns_init {K : Fr'} {mg : Str → Option Value} (T : Tx K mg) : FunD K "__init__" "InvalidTurns.__init__" (defArgs st_InvalidTurns_init) (defBody st_InvalidTurns_init) (defScope st_InvalidTurns_init) (d_InvalidTurns_init.dvs K) (d_InvalidTurns_init.kws K) (He.ma K (He.ga K "InvalidTurns") "__init__") (fdOf K (He.ma K (He.ga K "InvalidTurns") "__init__")) := T.c.def_ 47 (d := d_InvalidTurns_init)
theorem Tx.b_InvalidTurns_init {K : Fr'} {mg : Str → Option Value} (T : Tx K mg) : Binds K (fdOf K (He.ma K (He.ga K "InvalidTurns") "__init__")) ["self", "index"] [] := FunD.bindsN (kws := d_InvalidTurns_init.kws K) (T.f_InvalidTurns_init) fun _ _ _ _ _ _ us hl => match us, hl with | [_, _], _ => rfl
theorem Tx.tu_law_parts_right {K : Fr'} {mg : Str → Option Value} (T : Tx K mg) : ∀ p ∈ tabs14 K, p.1 = (He.cT K ("_law_parts_right", none)).2 → p.2 = ("_law_parts_right" ++ ".<locals>.") ++ "<lambda>" := fun p hp _ => by
  rw [List.mem_singleton.mp hp]
theorem Tx.qLoop_init_5_yes {K : Fr'} {mg : Str → Option Value} (T : Tx K mg) : ∃ g, KBn K (fdOf K (He.ma K (He.ga K "Loop") "__init__")) ["self", "signs", "states", "rows", "turns", "yes"] 5 (["yes"] : List Str) g (fun vs zs => selG [(0, 0), (0, 1), (0, 2), (0, 3), (0, 4), (2, 0)] vs [(.ref (He.dflAt ("Loop", some "__init__") 0 K))] [] zs) := by
  have h := kbnD (ps := ["self", "signs", "states", "rows", "turns", "yes"]) (T.f_Loop_init) 5 (["yes"] : List Str) [(0, 0), (0, 1), (0, 2), (0, 3), (0, 4), (2, 0)] (by simp [d_Loop_init, He5.DefA.dvs]) (fun _ _ _ _ _ _ _ us its ws h1 h2 h3 => match us, its, ws, h1, h2, h3 with | [_, _, _, _, _], [_], [_], _, _, _ => ⟨_, rfl, rfl⟩)
  have e : d_Loop_init.dvs K = [(.ref (He.dflAt ("Loop", some "__init__") 0 K))] := by
    simp only [d_Loop_init, He5.DefA.dvs, List.map, He.Dv.v, lit_abc]
  rw [e] at h
  exact h
theorem Tx.qLoop_init_1_yes_turns_states_rows_signs {K : Fr'} {mg : Str → Option Value} (T : Tx K mg) : ∃ g, KBn K (fdOf K (He.ma K (He.ga K "Loop") "__init__")) ["self", "signs", "states", "rows", "turns", "yes"] 1 (["yes", "turns", "states", "rows", "signs"] : List Str) g (fun vs zs => selG [(0, 0), (2, 4), (2, 2), (2, 3), (2, 1), (2, 0)] vs [(.ref (He.dflAt ("Loop", some "__init__") 0 K))] [] zs) := by
  have h := kbnD (ps := ["self", "signs", "states", "rows", "turns", "yes"]) (T.f_Loop_init) 1 (["yes", "turns", "states", "rows", "signs"] : List Str) [(0, 0), (2, 4), (2, 2), (2, 3), (2, 1), (2, 0)] (by simp [d_Loop_init, He5.DefA.dvs]) (fun _ _ _ _ _ _ _ us its ws h1 h2 h3 => match us, its, ws, h1, h2, h3 with | [_], [_], [_, _, _, _, _], _, _, _ => ⟨_, rfl, rfl⟩)
  have e : d_Loop_init.dvs K = [(.ref (He.dflAt ("Loop", some "__init__") 0 K))] := by
    simp only [d_Loop_init, He5.DefA.dvs, List.map, He.Dv.v, lit_abc]
  rw [e] at h
  exact h
theorem Tx.qLoop_init_4 {K : Fr'} {mg : Str → Option Value} (T : Tx K mg) : ∃ g, KBn K (fdOf K (He.ma K (He.ga K "Loop") "__init__")) ["self", "signs", "states", "rows", "turns", "yes"] 4 ([] : List Str) g (fun vs zs => selG [(0, 0), (0, 1), (0, 2), (0, 3), (1, 0), (3, 0)] vs [(.ref (He.dflAt ("Loop", some "__init__") 0 K))] [(.ref (kwdAt ("Loop", some "__init__") "yes" K))] zs) := by
  have h := kbnK (ps := ["self", "signs", "states", "rows", "turns", "yes"]) (T.f_Loop_init) 4 ([] : List Str) [("yes", (.ref (kwdAt ("Loop", some "__init__") "yes" K)))] [(0, 0), (0, 1), (0, 2), (0, 3), (1, 0), (3, 0)] (by simp [d_Loop_init, He5.DefA.dvs]) (by simp [d_Loop_init, He5.DefA.kws]) (by simp [d_Loop_init, He5.DefA.kws, He.Dv.v]) (fun _ _ _ _ _ _ _ us its mv ws h1 h2 h3 h4 => match us, its, mv, ws, h1, h2, h3, h4 with | [_, _, _, _], [_], [_], [], _, _, _, _ => ⟨_, rfl, _, _, _, _, _, _, rfl, rfl, rfl⟩)
  have e : d_Loop_init.dvs K = [(.ref (He.dflAt ("Loop", some "__init__") 0 K))] := by
    simp only [d_Loop_init, He5.DefA.dvs, List.map, He.Dv.v, lit_abc]
  rw [e] at h
  exact h
theorem sc_InvalidSigns_init : FnScope ["self", "given"] ["self", "given"] (defScope st_InvalidSigns_init) := ⟨rfl, rfl, rfl, by decide +kernel, rfl, by decide +kernel, by decide +kernel⟩
theorem sc_InvalidStates_init : FnScope ["self", "index"] ["self", "index"] (defScope st_InvalidStates_init) := ⟨rfl, rfl, rfl, by decide +kernel, rfl, by decide +kernel, by decide +kernel⟩
theorem sc_InvalidRows_init : FnScope ["self", "index"] ["self", "index"] (defScope st_InvalidRows_init) := ⟨rfl, rfl, rfl, by decide +kernel, rfl, by decide +kernel, by decide +kernel⟩
theorem sc_InvalidTurns_init : FnScope ["self", "index"] ["self", "index"] (defScope st_InvalidTurns_init) := ⟨rfl, rfl, rfl, by decide +kernel, rfl, by decide +kernel, by decide +kernel⟩
def tabX (K : Fr') (i : Nat) : Addr × Addr := He.cT K (((["_law_parts_right"] : List Str).getD i ""), none)
section
variable {P : Program} {w : World} {K : Fr'} {mg : Str → Option Value} {base : Heap}
theorem ok_InvalidSigns_init (T : Tx K mg) : FnOk P w K mg base CX0 1 (He.ma K (He.ga K "InvalidSigns") "__init__") (fdOf K (He.ma K (He.ga K "InvalidSigns") "__init__")) ["self", "given"] (sp_exc K (He.ga K "InvalidSigns") "given") := by
  have sc := sc_InvalidSigns_init
  refine T.f_InvalidSigns_init.ok sc (fun vs H Q E h => ?_) (fun cdv A outer s H vs Q E hr h => ⟨t_exc K "given", PSs.nox ?_, pure_exc rfl h⟩)
  · obtain ⟨_, _, rfl, _⟩ := h
    rfl
  · exact (pss_one (ps_ost (pv 0) (pv 1)))
theorem ok_InvalidStates_init (T : Tx K mg) : FnOk P w K mg base CX0 1 (He.ma K (He.ga K "InvalidStates") "__init__") (fdOf K (He.ma K (He.ga K "InvalidStates") "__init__")) ["self", "index"] (sp_exc K (He.ga K "InvalidStates") "index") := by
  have sc := sc_InvalidStates_init
  refine T.f_InvalidStates_init.ok sc (fun vs H Q E h => ?_) (fun cdv A outer s H vs Q E hr h => ⟨t_exc K "index", PSs.nox ?_, pure_exc rfl h⟩)
  · obtain ⟨_, _, rfl, _⟩ := h
    rfl
  · exact (pss_one (ps_ost (pv 0) (pv 1)))
theorem ok_InvalidRows_init (T : Tx K mg) : FnOk P w K mg base CX0 1 (He.ma K (He.ga K "InvalidRows") "__init__") (fdOf K (He.ma K (He.ga K "InvalidRows") "__init__")) ["self", "index"] (sp_exc K (He.ga K "InvalidRows") "index") := by
  have sc := sc_InvalidRows_init
  refine T.f_InvalidRows_init.ok sc (fun vs H Q E h => ?_) (fun cdv A outer s H vs Q E hr h => ⟨t_exc K "index", PSs.nox ?_, pure_exc rfl h⟩)
  · obtain ⟨_, _, rfl, _⟩ := h
    rfl
  · exact (pss_one (ps_ost (pv 0) (pv 1)))
theorem ok_InvalidTurns_init (T : Tx K mg) : FnOk P w K mg base CX0 1 (He.ma K (He.ga K "InvalidTurns") "__init__") (fdOf K (He.ma K (He.ga K "InvalidTurns") "__init__")) ["self", "index"] (sp_exc K (He.ga K "InvalidTurns") "index") := by
  have sc := sc_InvalidTurns_init
  refine T.f_InvalidTurns_init.ok sc (fun vs H Q E h => ?_) (fun cdv A outer s H vs Q E hr h => ⟨t_exc K "index", PSs.nox ?_, pure_exc rfl h⟩)
  · obtain ⟨_, _, rfl, _⟩ := h
    rfl
  · exact (pss_one (ps_ost (pv 0) (pv 1)))
theorem sc_is_integer : FnScope ["value"] ["value"] (defScope st_is_integer) := ⟨rfl, rfl, rfl, by decide +kernel, rfl, by decide +kernel, by decide +kernel⟩
theorem ok_is_integer (T : Tx K mg) : FnOk P w K mg base CX0 1 (He.ga K "is_integer") (fdOf K (He.ga K "is_integer")) ["value"] (sp_is_integer K) := by
  have sc := sc_is_integer
  refine T.f_is_integer.ok sc (fun vs H Q E h => ?_) (fun cdv A outer s H vs Q E hr h => ⟨t_is_integer K, PSs.nox ?_, pure_is_integer h⟩)
  · obtain ⟨_, _, rfl, _⟩ := h
    rfl
  · exact (pss_one (ps_ret (pe_and (pe_callB call_isi (by rfl) T.n_isinstance (by decide +kernel) (pa_cons (pv 0) (pa_cons (pe_bltn (by rfl) T.n_int (by decide +kernel) rfl) pa_nil))) (pe_one (pe_not (pe_callB call_isi (by rfl) T.n_isinstance (by decide +kernel) (pa_cons (pv 0) (pa_cons (pe_bltn (by rfl) T.n_bool (by decide +kernel) rfl) pa_nil))))))))
theorem sc_is_name : FnScope ["value", "mark"] ["value"] (defScope st_is_name) := ⟨rfl, rfl, rfl, by decide +kernel, rfl, by decide +kernel, by decide +kernel⟩
theorem ok_is_name (T : Tx K mg) : FnOk P w K mg base CX0 1 (He.ga K "is_name") (fdOf K (He.ga K "is_name")) ["value"] (sp_is_name K) := by
  have sc := sc_is_name
  refine T.f_is_name.ok sc (fun vs H Q E h => ?_) (fun cdv A outer s H vs Q E hr h => ⟨t_is_name K, PSs.nox ?_, pure_is_name h⟩)
  · obtain ⟨_, rfl, _⟩ := h
    rfl
  · exact (pss_cons (ps_if (PW.pt (pw_or (pt_not (pt_val (pe_callB call_isi (by rfl) T.n_isinstance (by decide +kernel) (pa_cons (pv 0) (pa_cons (pe_bltn (by rfl) T.n_str (by decide +kernel) rfl) pa_nil))))) (pw_or1 (pt_not (pt_chain op_le op_le pe_int (pe_callB call_len (by rfl) T.n_len (by decide +kernel) (pa_cons (pv 0) pa_nil)) (pe_globI (by rfl) T.g_LONGEST_NAME)))))) (pss_one (ps_ret pe_bl)) pss_nil)
  (pss_one (ps_ret (pe_and (pe_cmpR op_in_sign (pe_ix ix_str (pv 0) pe_int (fun _ _ => rfl)) (pe_globS (by rfl) T.g_LETTERS) (by rfl)) (pe_one (pe_callB (cr_all rfl) (by rfl) T.n_all (by decide +kernel) (pa_cons (pe_lc (own := [("mark", 1)]) (g := gName 1) (by rfl) sc.nd (pi_str (pv 0)) (blkOk_by (own := [("mark", 1)]) (by kernel_rfl)) (fun _ _ _ _ _ => pg_name (i := 1) sc.nd rfl (by first | exact Or.inl rfl | exact Or.inr rfl)) (fun _ _ _ _ _ => pts_nil) (fun _ _ _ _ _ => (pe_cmpR op_in_sign (pv 1) (pe_globS (by rfl) T.g_MARKS) (by rfl)))) pa_nil)))))))
theorem ok_is_nameA (T : Tx K mg) : FnOk P w K mg base CX0 1 (He.ga K "is_name") (fdOf K (He.ga K "is_name")) ["value"] (sp_is_nameA K) := by
  have sc := sc_is_name
  refine T.f_is_name.ok sc (fun vs H Q E h => ?_) (fun cdv A outer s H vs Q E hr h => ⟨t_is_nameA K, PSs.nox ?_, pure_is_nameA h⟩)
  · obtain ⟨_, rfl, _⟩ := h
    rfl
  · exact (pss_cons (ps_if (PW.pt (pw_or (pt_not (pt_val (pe_callB call_isi (by rfl) T.n_isinstance (by decide +kernel) (pa_cons (pv 0) (pa_cons (pe_bltn (by rfl) T.n_str (by decide +kernel) rfl) pa_nil))))) (pw_or1 (pt_not (pt_chain op_le op_le pe_int (pe_callB call_len (by rfl) T.n_len (by decide +kernel) (pa_cons (pv 0) pa_nil)) (pe_globI (by rfl) T.g_LONGEST_NAME)))))) (pss_one (ps_ret pe_bl)) pss_nil)
  (pss_one (ps_ret (pe_and (pe_cmpR op_in_sign (pe_ix ix_str (pv 0) pe_int (fun _ _ => rfl)) (pe_globS (by rfl) T.g_LETTERS) (by rfl)) (pe_one (pe_callB (cr_all rfl) (by rfl) T.n_all (by decide +kernel) (pa_cons (pe_lc (own := [("mark", 1)]) (g := gName 1) (by rfl) sc.nd (pi_str (pv 0)) (blkOk_by (own := [("mark", 1)]) (by kernel_rfl)) (fun _ _ _ _ _ => pg_name (i := 1) sc.nd rfl (by first | exact Or.inl rfl | exact Or.inr rfl)) (fun _ _ _ _ _ => pts_nil) (fun _ _ _ _ _ => (pe_cmpR op_in_sign (pv 1) (pe_globS (by rfl) T.g_MARKS) (by rfl)))) pa_nil)))))))
theorem sc_is_word : FnScope ["value", "signs", "sign"] ["value", "signs"] (defScope st_is_word) := ⟨rfl, rfl, rfl, by decide +kernel, rfl, by decide +kernel, by decide +kernel⟩
theorem ok_is_word (T : Tx K mg) : FnOk P w K mg base CX0 1 (He.ga K "is_word") (fdOf K (He.ga K "is_word")) ["value", "signs"] (sp_is_word K) := by
  have sc := sc_is_word
  refine T.f_is_word.ok sc (fun vs H Q E h => ?_) (fun cdv A outer s H vs Q E hr h => ⟨t_is_word K, PSs.nox ?_, pure_is_word h⟩)
  · obtain ⟨_, _, rfl, _⟩ := h
    rfl
  · exact (pss_cons (ps_if (PW.pt (pw_or (pt_not (pt_val (pe_callB call_isi (by rfl) T.n_isinstance (by decide +kernel) (pa_cons (pv 0) (pa_cons (pe_bltn (by rfl) T.n_str (by decide +kernel) rfl) pa_nil))))) (pw_or1 (pt_not (pt_chain op_le op_le pe_int (pe_callB call_len (by rfl) T.n_len (by decide +kernel) (pa_cons (pv 0) pa_nil)) (pe_globI (by rfl) T.g_MOST_WORD)))))) (pss_one (ps_ret pe_bl)) pss_nil)
  (pss_one (ps_ret (pe_callB (cr_all rfl) (by rfl) T.n_all (by decide +kernel) (pa_cons (pe_lc (own := [("sign", 2)]) (g := gName 2) (by rfl) sc.nd (pi_str (pv 0)) (blkOk_by (own := [("sign", 2)]) (by kernel_rfl)) (fun _ _ _ _ _ => pg_name (i := 2) sc.nd rfl (by first | exact Or.inl rfl | exact Or.inr rfl)) (fun _ _ _ _ _ => pts_nil) (fun _ _ _ _ _ => (pe_cmpR op_in_sign (pv 2) (pv 1) (by rfl)))) pa_nil)))))
theorem sc_is_row : FnScope ["value", "length"] ["value", "length"] (defScope st_is_row) := ⟨rfl, rfl, rfl, by decide +kernel, rfl, by decide +kernel, by decide +kernel⟩
theorem ok_is_row (T : Tx K mg) : FnOk P w K mg base CX0 1 (He.ga K "is_row") (fdOf K (He.ga K "is_row")) ["value", "length"] (sp_is_row K) := by
  have sc := sc_is_row
  refine T.f_is_row.ok sc (fun vs H Q E h => ?_) (fun cdv A outer s H vs Q E hr h => ⟨t_is_row K, PSs.nox ?_, pure_is_row h⟩)
  · obtain ⟨_, _, rfl, _⟩ := h
    rfl
  · exact (pss_one (ps_ret (pe_and (pe_callB call_isi (by rfl) T.n_isinstance (by decide +kernel) (pa_cons (pv 0) (pa_cons (pe_bltn (by rfl) T.n_tuple (by decide +kernel) rfl) pa_nil))) (pe_one (pe_cmpR op_eq (pe_callB call_len (by rfl) T.n_len (by decide +kernel) (pa_cons (pv 0) pa_nil)) (pv 1) (nomark _))))))
theorem sc_check_signs : FnScope ["signs"] ["signs"] (defScope st_check_signs) := ⟨rfl, rfl, rfl, by decide +kernel, rfl, by decide +kernel, by decide +kernel⟩
theorem ok_check_signs (T : Tx K mg) : FnOk P w K mg base CX0 2 (He.ga K "check_signs") (fdOf K (He.ga K "check_signs")) ["signs"] (sp_check_signs K) := by
  have sc := sc_check_signs
  obtain ⟨ds_is_word, dv_is_word, db_is_word⟩ := T.bd1_is_word
  refine T.f_check_signs.ok sc (fun vs H Q E h => ?_) (fun cdv A outer s H vs Q E hr h => ⟨t_check_signs K, PSs.nox ?_, pure_check_signs h⟩)
  · obtain ⟨_, rfl, _⟩ := h
    rfl
  · exact (pss_one (ps_if (PW.pt (pw_or (pt_not (pt_val (pe_call (ok_is_word T) (hr.mono (by decide)) (by rfl) T.g_is_word T.k_is_word db_is_word dv_is_word pass0 (pa_cons (pv 0) pa_nil)))) (pw_or (pt_cmpR op_gt (pe_callB call_len (by rfl) T.n_len (by decide +kernel) (pa_cons (pv 0) pa_nil)) (pe_globI (by rfl) T.g_MOST_SIGNS) (nomark _)) (pw_or1 (pt_cmpR op_lt (pe_lenSetS rfl (by rfl) T.n_len (by rfl) T.n_set (pv 0)) (pe_callB call_len (by rfl) T.n_len (by decide +kernel) (pa_cons (pv 0) pa_nil)) (nomark _)))))) (pss_one ps_never) pss_nil))
theorem okr_check_signs (T : Tx K mg) : FnOk P w K mg base (L2N.CX P w) 3 (He.ga K "check_signs") (fdOf K (He.ga K "check_signs")) ["signs"] (spr_check_signs K) := by
  have sc := sc_check_signs
  obtain ⟨ds_is_word, dv_is_word, db_is_word⟩ := T.bd1_is_word
  refine T.f_check_signs.ok sc (fun vs H Q E h => ?_) (fun cdv A outer s H vs Q E hr h => ⟨t_check_signs_x K E, ?_, pure_check_signs_x T.inX h⟩)
  · obtain ⟨_, rfl, _⟩ := h
    rfl
  · exact (pss_one (ps_if (PW.pt (pw_or (pt_not (pt_val (pe_call (ok_is_word T) (hr.mono (by decide)) (by rfl) T.g_is_word T.k_is_word db_is_word dv_is_word pass0 (pa_cons (pv 0) pa_nil)))) (pw_or (pt_cmpR op_gt (pe_callB call_len (by rfl) T.n_len (by decide +kernel) (pa_cons (pv 0) pa_nil)) (pe_globI (by rfl) T.g_MOST_SIGNS) (nomark _)) (pw_or1 (pt_cmpR op_lt (pe_lenSetS rfl (by rfl) T.n_len (by rfl) T.n_set (pv 0)) (pe_callB call_len (by rfl) T.n_len (by decide +kernel) (pa_cons (pv 0) pa_nil)) (nomark _)))))) (pss_one (ps_rs rfl T.xk_InvalidSigns (ok_InvalidSigns_init T) (hr.mono (by decide)) T.b_InvalidSigns_init (L2N.takes_of rfl rfl rfl rfl) (by rfl) T.g_InvalidSigns (pa_cons (pv 0) pa_nil))) pss_nil))
theorem okx_check_signs (T : Tx K mg) : FnOk P w K mg base (L2N.CX P w) 3 (He.ga K "check_signs") (fdOf K (He.ga K "check_signs")) ["signs"] (spx_check_signs K) := FnOk_or (FnOk_lift ((ok_check_signs T).mono (by decide))) (okr_check_signs T) (by decide)
theorem sc_is_step : FnScope ["row", "signs", "states"] ["row", "signs", "states"] (defScope st_is_step) := ⟨rfl, rfl, rfl, by decide +kernel, rfl, by decide +kernel, by decide +kernel⟩
theorem ok_is_step (T : Tx K mg) : FnOk P w K mg base CX0 2 (He.ga K "is_step") (fdOf K (He.ga K "is_step")) ["row", "signs", "states"] (sp_is_step K) := by
  have sc := sc_is_step
  refine T.f_is_step.ok sc (fun vs H Q E h => ?_) (fun cdv A outer s H vs Q E hr h => ⟨t_is_step K, PSs.nox ?_, pure_is_step h⟩)
  · obtain ⟨_, _, _, rfl, _⟩ := h
    rfl
  · exact (pss_cons (ps_if (PW.pt (pw_or (pt_not (pt_val (pe_call (ok_is_row T) (hr.mono (by decide)) (by rfl) T.g_is_row T.k_is_row T.b_is_row .nil pass0 (pa_cons (pv 0) (pa_cons pe_int pa_nil))))) (pw_or (pt_not (pt_val (pe_call (ok_is_word T) (hr.mono (by decide)) (by rfl) T.g_is_word T.k_is_word T.bf_is_word .nil pass0 (pa_cons (pe_ix ix_tup (pv 0) pe_int (fun _ _ => rfl)) (pa_cons (pv 1) pa_nil))))) (pw_or1 (pt_cmpR op_ne (pe_callB call_len (by rfl) T.n_len (by decide +kernel) (pa_cons (pe_ix ix_tup (pv 0) pe_int (fun _ _ => rfl)) pa_nil)) pe_int (nomark _)))))) (pss_one (ps_ret pe_bl)) pss_nil)
  (pss_one (ps_ret (pe_and (pe_cmpR op_in_seq (pe_ix ix_tup (pv 0) pe_int (fun _ _ => rfl)) (pv 2) (by rfl)) (pe_and (pe_cmpR op_in_seq (pe_ix ix_tup (pv 0) pe_int (fun _ _ => rfl)) (pv 2) (by rfl)) (pe_one (pe_call (ok_is_integer T) (hr.mono (by decide)) (by rfl) T.g_is_integer T.k_is_integer T.b_is_integer .nil pass0 (pa_cons (pe_ix ix_tup (pv 0) pe_int (fun _ _ => rfl)) pa_nil))))))))
theorem ok_is_stepA (T : Tx K mg) : FnOk P w K mg base CX0 2 (He.ga K "is_step") (fdOf K (He.ga K "is_step")) ["row", "signs", "states"] (sp_is_stepA K) := by
  have sc := sc_is_step
  refine T.f_is_step.ok sc (fun vs H Q E h => ?_) (fun cdv A outer s H vs Q E hr h => ⟨t_is_stepA K, PSs.nox ?_, pure_is_stepA h⟩)
  · obtain ⟨_, _, _, rfl, _⟩ := h
    rfl
  · exact (pss_cons (ps_if (PW.pt (pw_or (pt_not (pt_val (pe_call (ok_is_row T) (hr.mono (by decide)) (by rfl) T.g_is_row T.k_is_row T.b_is_row .nil pass0 (pa_cons (pv 0) (pa_cons pe_int pa_nil))))) (pw_or (pt_not (pt_val (pe_call (ok_is_word T) (hr.mono (by decide)) (by rfl) T.g_is_word T.k_is_word T.bf_is_word .nil pass0 (pa_cons (pe_ix ix_tup (pv 0) pe_int (fun _ _ => rfl)) (pa_cons (pv 1) pa_nil))))) (pw_or1 (pt_cmpR op_ne (pe_callB call_len (by rfl) T.n_len (by decide +kernel) (pa_cons (pe_ix ix_tup (pv 0) pe_int (fun _ _ => rfl)) pa_nil)) pe_int (nomark _)))))) (pss_one (ps_ret pe_bl)) pss_nil)
  (pss_one (ps_ret (pe_and (pe_cmpR (op_inK hr.u65) (pe_ix ix_tup (pv 0) pe_int (fun _ _ => rfl)) (pv 2) (by rfl)) (pe_and (pe_cmpR (op_inK hr.u65) (pe_ix ix_tup (pv 0) pe_int (fun _ _ => rfl)) (pv 2) (by rfl)) (pe_one (pe_call (ok_is_integer T) (hr.mono (by decide)) (by rfl) T.g_is_integer T.k_is_integer T.b_is_integer .nil pass0 (pa_cons (pe_ix ix_tup (pv 0) pe_int (fun _ _ => rfl)) pa_nil))))))))
theorem sc_is_turn : FnScope ["turn", "states"] ["turn", "states"] (defScope st_is_turn) := ⟨rfl, rfl, rfl, by decide +kernel, rfl, by decide +kernel, by decide +kernel⟩
theorem ok_is_turn (T : Tx K mg) : FnOk P w K mg base CX0 2 (He.ga K "is_turn") (fdOf K (He.ga K "is_turn")) ["turn", "states"] (sp_is_turn K) := by
  have sc := sc_is_turn
  refine T.f_is_turn.ok sc (fun vs H Q E h => ?_) (fun cdv A outer s H vs Q E hr h => ⟨t_is_turn K, PSs.nox ?_, pure_is_turn h⟩)
  · obtain ⟨_, _, rfl, _⟩ := h
    rfl
  · exact (pss_one (ps_ret (pe_and (pe_call (ok_is_row T) (hr.mono (by decide)) (by rfl) T.g_is_row T.k_is_row T.b_is_row .nil pass0 (pa_cons (pv 0) (pa_cons pe_int pa_nil))) (pe_and (pe_cmpR op_in_seq (pe_ix ix_tup (pv 0) pe_int (fun _ _ => rfl)) (pv 1) (by rfl)) (pe_and (pe_cmpR op_in_seq (pe_ix ix_tup (pv 0) pe_int (fun _ _ => rfl)) (pv 1) (by rfl)) (pe_one (pe_call (ok_is_integer T) (hr.mono (by decide)) (by rfl) T.g_is_integer T.k_is_integer T.b_is_integer .nil pass0 (pa_cons (pe_ix ix_tup (pv 0) pe_int (fun _ _ => rfl)) pa_nil))))))))
theorem ok_is_turnA (T : Tx K mg) : FnOk P w K mg base CX0 2 (He.ga K "is_turn") (fdOf K (He.ga K "is_turn")) ["turn", "states"] (sp_is_turnA K) := by
  have sc := sc_is_turn
  refine T.f_is_turn.ok sc (fun vs H Q E h => ?_) (fun cdv A outer s H vs Q E hr h => ⟨t_is_turnA K, PSs.nox ?_, pure_is_turnA h⟩)
  · obtain ⟨_, _, rfl, _⟩ := h
    rfl
  · exact (pss_one (ps_ret (pe_and (pe_call (ok_is_row T) (hr.mono (by decide)) (by rfl) T.g_is_row T.k_is_row T.b_is_row .nil pass0 (pa_cons (pv 0) (pa_cons pe_int pa_nil))) (pe_and (pe_cmpR (op_inK hr.u65) (pe_ix ix_tup (pv 0) pe_int (fun _ _ => rfl)) (pv 1) (by rfl)) (pe_and (pe_cmpR (op_inK hr.u65) (pe_ix ix_tup (pv 0) pe_int (fun _ _ => rfl)) (pv 1) (by rfl)) (pe_one (pe_call (ok_is_integer T) (hr.mono (by decide)) (by rfl) T.g_is_integer T.k_is_integer T.b_is_integer .nil pass0 (pa_cons (pe_ix ix_tup (pv 0) pe_int (fun _ _ => rfl)) pa_nil))))))))
theorem sc_check_states : FnScope ["states", "index", "state"] ["states"] (defScope st_check_states) := ⟨rfl, rfl, rfl, by decide +kernel, rfl, by decide +kernel, by decide +kernel⟩
theorem ok_check_states (T : Tx K mg) : FnOk P w K mg base CX0 2 (He.ga K "check_states") (fdOf K (He.ga K "check_states")) ["states"] (sp_check_states K) := by
  have sc := sc_check_states
  refine T.f_check_states.ok sc (fun vs H Q E h => ?_) (fun cdv A outer s H vs Q E hr h => ⟨t_check_states K, PSs.nox ?_, pure_check_states h⟩)
  · obtain ⟨_, rfl, _⟩ := h
    rfl
  · exact (pss_cons (ps_if (PW.pt (pw_or (pt_not (pt_val (pe_callB call_isi (by rfl) T.n_isinstance (by decide +kernel) (pa_cons (pv 0) (pa_cons (pe_bltn (by rfl) T.n_tuple (by decide +kernel) rfl) pa_nil))))) (pw_or1 (pt_cmpR op_eq (pe_callB call_len (by rfl) T.n_len (by decide +kernel) (pa_cons (pv 0) pa_nil)) pe_int (nomark _))))) (pss_one ps_never) pss_nil)
  (pss_one (ps_for PassesOwn.never rfl (pi_enumT (by rfl) T.n_enumerate (pa_cons (pv 0) pa_nil)) (pg_tup rfl (pgs_cons (pg_name (i := 1) sc.nd rfl (by first | exact Or.inl rfl | exact Or.inr rfl)) (pgs_cons (pg_name (i := 2) sc.nd rfl (by first | exact Or.inl rfl | exact Or.inr rfl)) pgs_nil))) (pss_one (ps_if (PW.pt (pw_or (pt_cmpR op_eq (pv 1) (pe_globI (by rfl) T.g_MOST_STATES) (nomark _)) (pw_or (pt_not (pt_val (pe_call (ok_is_name T) (hr.mono (by decide)) (by rfl) T.g_is_name T.k_is_name T.b_is_name .nil pass0 (pa_cons (pv 2) pa_nil)))) (pw_or1 (pt_cmpR op_in_seq (pv 2) (pe_slice sl_tupA (pv 0) po_none (po_some (pv 1))) (by rfl)))))) (pss_one ps_never) pss_nil)))))
theorem okr_check_states (T : Tx K mg) : FnOk P w K mg base (L2N.CX P w) 3 (He.ga K "check_states") (fdOf K (He.ga K "check_states")) ["states"] (spr_check_states K) := by
  have sc := sc_check_states
  refine T.f_check_states.ok sc (fun vs H Q E h => ?_) (fun cdv A outer s H vs Q E hr h => ⟨t_check_states_x K E, ?_, pure_check_states_x T.inX h⟩)
  · obtain ⟨_, rfl, _⟩ := h
    rfl
  · exact (pss_cons (ps_if (PW.pt (pw_or (pt_not (pt_val (pe_callB call_isi (by rfl) T.n_isinstance (by decide +kernel) (pa_cons (pv 0) (pa_cons (pe_bltn (by rfl) T.n_tuple (by decide +kernel) rfl) pa_nil))))) (pw_or1 (pt_cmpR op_eq (pe_callB call_len (by rfl) T.n_len (by decide +kernel) (pa_cons (pv 0) pa_nil)) pe_int (nomark _))))) (pss_one (ps_rs rfl T.xk_InvalidStates (ok_InvalidStates_init T) (hr.mono (by decide)) T.b_InvalidStates_init (L2N.takes_of rfl rfl rfl rfl) (by rfl) T.g_InvalidStates (pa_cons pe_non pa_nil))) pss_nil)
  (pss_one (ps_for (L2.passes_of rfl) rfl (pi_enumT (by rfl) T.n_enumerate (pa_cons (pv 0) pa_nil)) (pg_tup rfl (pgs_cons (pg_name (i := 1) sc.nd rfl (by first | exact Or.inl rfl | exact Or.inr rfl)) (pgs_cons (pg_name (i := 2) sc.nd rfl (by first | exact Or.inl rfl | exact Or.inr rfl)) pgs_nil))) (pss_one (ps_if (PW.pt (pw_or (pt_cmpR op_eq (pv 1) (pe_globI (by rfl) T.g_MOST_STATES) (nomark _)) (pw_or (pt_not (pt_val (pe_call (ok_is_nameA T) (hr.mono (by decide)) (by rfl) T.g_is_name T.k_is_name T.b_is_name .nil pass0 (pa_cons (pv 2) pa_nil)))) (pw_or1 (pt_cmpR (op_inK hr.u65) (pv 2) (pe_slice sl_tupA (pv 0) po_none (po_some (pv 1))) (by rfl)))))) (pss_one (ps_rs rfl T.xk_InvalidStates (ok_InvalidStates_init T) (hr.mono (by decide)) T.b_InvalidStates_init (L2N.takes_of rfl rfl rfl rfl) (by rfl) T.g_InvalidStates (pa_cons (pv 1) pa_nil))) pss_nil)))))
theorem okx_check_states (T : Tx K mg) : FnOk P w K mg base (L2N.CX P w) 3 (He.ga K "check_states") (fdOf K (He.ga K "check_states")) ["states"] (spx_check_states K) := FnOk_or (FnOk_lift ((ok_check_states T).mono (by decide))) (okr_check_states T) (by decide)
theorem sc_check_rows : FnScope ["signs", "states", "rows", "seen", "index", "row"] ["signs", "states", "rows"] (defScope st_check_rows) := ⟨rfl, rfl, rfl, by decide +kernel, rfl, by decide +kernel, by decide +kernel⟩
theorem ok_check_rows (T : Tx K mg) : FnOk P w K mg base CX0 3 (He.ga K "check_rows") (fdOf K (He.ga K "check_rows")) ["signs", "states", "rows"] (sp_check_rows K) := by
  have sc := sc_check_rows
  refine T.f_check_rows.ok sc (fun vs H Q E h => ?_) (fun cdv A outer s H vs Q E hr h => ⟨t_check_rows K, PSs.nox ?_, pure_check_rows h⟩)
  · obtain ⟨_, _, _, rfl, _⟩ := h
    rfl
  · exact (pss_cons (ps_if (pt_not (pt_val (pe_callB call_isi (by rfl) T.n_isinstance (by decide +kernel) (pa_cons (pv 2) (pa_cons (pe_bltn (by rfl) T.n_tuple (by decide +kernel) rfl) pa_nil))))) (pss_one ps_never) pss_nil)
  (pss_cons (ps_set (i := 3) sc.nd rfl (by first | exact Or.inl rfl | exact Or.inr rfl) (pe_lst pa_nil))
  (pss_cons (ps_for PassesOwn.never rfl (pi_enumT (by rfl) T.n_enumerate (pa_cons (pv 2) pa_nil)) (pg_tup rfl (pgs_cons (pg_name (i := 4) sc.nd rfl (by first | exact Or.inl rfl | exact Or.inr rfl)) (pgs_cons (pg_name (i := 5) sc.nd rfl (by first | exact Or.inl rfl | exact Or.inr rfl)) pgs_nil))) (pss_cons (ps_if (PW.pt (pw_or (pt_not (pt_val (pe_call (ok_is_step T) (hr.mono (by decide)) (by rfl) T.g_is_step T.k_is_step T.b_is_step .nil pass0 (pa_cons (pv 5) (pa_cons (pv 0) (pa_cons (pv 1) pa_nil)))))) (pw_or1 (pt_cmpR (op_inD hr.u65) (pe_slice sl_tupA (pv 5) po_none (po_some pe_int)) (pv 3) (by rfl))))) (pss_one ps_never) pss_nil)
  (pss_one (ps_expr (pe_bm PySem.F.plainAttrs_list PySem.F.slot_list_append PySem.F.type_list_append mt_append (pv 3) (pa_cons (pe_slice sl_tupA (pv 5) po_none (po_some pe_int)) pa_nil))))))
  (pss_one (ps_if (pt_cmpR op_lt (pe_callB call_len (by rfl) T.n_len (by decide +kernel) (pa_cons (pv 2) pa_nil)) (pe_op op_mul (pe_callB call_len (by rfl) T.n_len (by decide +kernel) (pa_cons (pv 0) pa_nil)) (pe_callB call_len (by rfl) T.n_len (by decide +kernel) (pa_cons (pv 1) pa_nil))) (nomark _)) (pss_one ps_never) pss_nil)))))
theorem okr_check_rows (T : Tx K mg) : FnOk P w K mg base (L2N.CX P w) 3 (He.ga K "check_rows") (fdOf K (He.ga K "check_rows")) ["signs", "states", "rows"] (spr_check_rows K) := by
  have sc := sc_check_rows
  refine T.f_check_rows.ok sc (fun vs H Q E h => ?_) (fun cdv A outer s H vs Q E hr h => ⟨t_check_rows_x K E, ?_, pure_check_rows_x T.inX h⟩)
  · obtain ⟨_, _, _, rfl, _⟩ := h
    rfl
  · exact (pss_cons (ps_if (pt_not (pt_val (pe_callB call_isi (by rfl) T.n_isinstance (by decide +kernel) (pa_cons (pv 2) (pa_cons (pe_bltn (by rfl) T.n_tuple (by decide +kernel) rfl) pa_nil))))) (pss_one (ps_rs rfl T.xk_InvalidRows (ok_InvalidRows_init T) (hr.mono (by decide)) T.b_InvalidRows_init (L2N.takes_of rfl rfl rfl rfl) (by rfl) T.g_InvalidRows (pa_cons pe_non pa_nil))) pss_nil)
  (pss_cons (ps_set (i := 3) sc.nd rfl (by first | exact Or.inl rfl | exact Or.inr rfl) (pe_lst pa_nil))
  (pss_cons (ps_for (L2.passes_of rfl) rfl (pi_enumT (by rfl) T.n_enumerate (pa_cons (pv 2) pa_nil)) (pg_tup rfl (pgs_cons (pg_name (i := 4) sc.nd rfl (by first | exact Or.inl rfl | exact Or.inr rfl)) (pgs_cons (pg_name (i := 5) sc.nd rfl (by first | exact Or.inl rfl | exact Or.inr rfl)) pgs_nil))) (pss_cons (ps_if (PW.pt (pw_or (pt_not (pt_val (pe_call (ok_is_stepA T) (hr.mono (by decide)) (by rfl) T.g_is_step T.k_is_step T.b_is_step .nil pass0 (pa_cons (pv 5) (pa_cons (pv 0) (pa_cons (pv 1) pa_nil)))))) (pw_or1 (pt_cmpR (op_inD hr.u65) (pe_slice sl_tupA (pv 5) po_none (po_some pe_int)) (pv 3) (by rfl))))) (pss_one (ps_rs rfl T.xk_InvalidRows (ok_InvalidRows_init T) (hr.mono (by decide)) T.b_InvalidRows_init (L2N.takes_of rfl rfl rfl rfl) (by rfl) T.g_InvalidRows (pa_cons (pv 4) pa_nil))) pss_nil)
  (pss_one (ps_expr (pe_bm PySem.F.plainAttrs_list PySem.F.slot_list_append PySem.F.type_list_append mt_append (pv 3) (pa_cons (pe_slice sl_tupA (pv 5) po_none (po_some pe_int)) pa_nil))))))
  (pss_one (ps_if (pt_cmpR op_lt (pe_callB call_len (by rfl) T.n_len (by decide +kernel) (pa_cons (pv 2) pa_nil)) (pe_op op_mul (pe_callB call_len (by rfl) T.n_len (by decide +kernel) (pa_cons (pv 0) pa_nil)) (pe_callB call_len (by rfl) T.n_len (by decide +kernel) (pa_cons (pv 1) pa_nil))) (nomark _)) (pss_one (ps_rs rfl T.xk_InvalidRows (ok_InvalidRows_init T) (hr.mono (by decide)) T.b_InvalidRows_init (L2N.takes_of rfl rfl rfl rfl) (by rfl) T.g_InvalidRows (pa_cons pe_non pa_nil))) pss_nil)))))
theorem okx_check_rows (T : Tx K mg) : FnOk P w K mg base (L2N.CX P w) 3 (He.ga K "check_rows") (fdOf K (He.ga K "check_rows")) ["signs", "states", "rows"] (spx_check_rows K) := FnOk_or (FnOk_lift ((ok_check_rows T).mono (by decide))) (okr_check_rows T) (by decide)
theorem sc_check_turns : FnScope ["states", "turns", "seen", "index", "turn"] ["states", "turns"] (defScope st_check_turns) := ⟨rfl, rfl, rfl, by decide +kernel, rfl, by decide +kernel, by decide +kernel⟩
theorem ok_check_turns (T : Tx K mg) : FnOk P w K mg base CX0 3 (He.ga K "check_turns") (fdOf K (He.ga K "check_turns")) ["states", "turns"] (sp_check_turns K) := by
  have sc := sc_check_turns
  refine T.f_check_turns.ok sc (fun vs H Q E h => ?_) (fun cdv A outer s H vs Q E hr h => ⟨t_check_turns K, PSs.nox ?_, pure_check_turns h⟩)
  · obtain ⟨_, _, rfl, _⟩ := h
    rfl
  · exact (pss_cons (ps_if (pt_not (pt_val (pe_callB call_isi (by rfl) T.n_isinstance (by decide +kernel) (pa_cons (pv 1) (pa_cons (pe_bltn (by rfl) T.n_tuple (by decide +kernel) rfl) pa_nil))))) (pss_one ps_never) pss_nil)
  (pss_cons (ps_set (i := 2) sc.nd rfl (by first | exact Or.inl rfl | exact Or.inr rfl) (pe_lst pa_nil))
  (pss_one (ps_for PassesOwn.never rfl (pi_enumT (by rfl) T.n_enumerate (pa_cons (pv 1) pa_nil)) (pg_tup rfl (pgs_cons (pg_name (i := 3) sc.nd rfl (by first | exact Or.inl rfl | exact Or.inr rfl)) (pgs_cons (pg_name (i := 4) sc.nd rfl (by first | exact Or.inl rfl | exact Or.inr rfl)) pgs_nil))) (pss_cons (ps_if (PW.pt (pw_or (pt_not (pt_val (pe_call (ok_is_turn T) (hr.mono (by decide)) (by rfl) T.g_is_turn T.k_is_turn T.b_is_turn .nil pass0 (pa_cons (pv 4) (pa_cons (pv 0) pa_nil))))) (pw_or1 (pt_cmpR op_in_seq (pe_ix ix_tup (pv 4) pe_int (fun _ _ => rfl)) (pv 2) (by rfl))))) (pss_one ps_never) pss_nil)
  (pss_one (ps_expr (pe_bm PySem.F.plainAttrs_list PySem.F.slot_list_append PySem.F.type_list_append mt_append (pv 2) (pa_cons (pe_ix ix_tup (pv 4) pe_int (fun _ _ => rfl)) pa_nil)))))))))
theorem okr_check_turns (T : Tx K mg) : FnOk P w K mg base (L2N.CX P w) 3 (He.ga K "check_turns") (fdOf K (He.ga K "check_turns")) ["states", "turns"] (spr_check_turns K) := by
  have sc := sc_check_turns
  refine T.f_check_turns.ok sc (fun vs H Q E h => ?_) (fun cdv A outer s H vs Q E hr h => ⟨t_check_turns_x K E, ?_, pure_check_turns_x T.inX h⟩)
  · obtain ⟨_, _, rfl, _⟩ := h
    rfl
  · exact (pss_cons (ps_if (pt_not (pt_val (pe_callB call_isi (by rfl) T.n_isinstance (by decide +kernel) (pa_cons (pv 1) (pa_cons (pe_bltn (by rfl) T.n_tuple (by decide +kernel) rfl) pa_nil))))) (pss_one (ps_rs rfl T.xk_InvalidTurns (ok_InvalidTurns_init T) (hr.mono (by decide)) T.b_InvalidTurns_init (L2N.takes_of rfl rfl rfl rfl) (by rfl) T.g_InvalidTurns (pa_cons pe_non pa_nil))) pss_nil)
  (pss_cons (ps_set (i := 2) sc.nd rfl (by first | exact Or.inl rfl | exact Or.inr rfl) (pe_lst pa_nil))
  (pss_one (ps_for (L2.passes_of rfl) rfl (pi_enumT (by rfl) T.n_enumerate (pa_cons (pv 1) pa_nil)) (pg_tup rfl (pgs_cons (pg_name (i := 3) sc.nd rfl (by first | exact Or.inl rfl | exact Or.inr rfl)) (pgs_cons (pg_name (i := 4) sc.nd rfl (by first | exact Or.inl rfl | exact Or.inr rfl)) pgs_nil))) (pss_cons (ps_if (PW.pt (pw_or (pt_not (pt_val (pe_call (ok_is_turnA T) (hr.mono (by decide)) (by rfl) T.g_is_turn T.k_is_turn T.b_is_turn .nil pass0 (pa_cons (pv 4) (pa_cons (pv 0) pa_nil))))) (pw_or1 (pt_cmpR (op_inK hr.u65) (pe_ix ix_tup (pv 4) pe_int (fun _ _ => rfl)) (pv 2) (by rfl))))) (pss_one (ps_rs rfl T.xk_InvalidTurns (ok_InvalidTurns_init T) (hr.mono (by decide)) T.b_InvalidTurns_init (L2N.takes_of rfl rfl rfl rfl) (by rfl) T.g_InvalidTurns (pa_cons (pv 3) pa_nil))) pss_nil)
  (pss_one (ps_expr (pe_bm PySem.F.plainAttrs_list PySem.F.slot_list_append PySem.F.type_list_append mt_append (pv 2) (pa_cons (pe_ix ix_tup (pv 4) pe_int (fun _ _ => rfl)) pa_nil)))))))))
theorem okx_check_turns (T : Tx K mg) : FnOk P w K mg base (L2N.CX P w) 3 (He.ga K "check_turns") (fdOf K (He.ga K "check_turns")) ["states", "turns"] (spx_check_turns K) := FnOk_or (FnOk_lift ((ok_check_turns T).mono (by decide))) (okr_check_turns T) (by decide)
theorem sc_check_yes : FnScope ["states", "yes", "index", "state"] ["states", "yes"] (defScope st_check_yes) := ⟨rfl, rfl, rfl, by decide +kernel, rfl, by decide +kernel, by decide +kernel⟩
theorem ok_check_yes (T : Tx K mg) : FnOk P w K mg base CX0 1 (He.ga K "check_yes") (fdOf K (He.ga K "check_yes")) ["states", "yes"] (sp_check_yes K) := by
  have sc := sc_check_yes
  refine T.f_check_yes.ok sc (fun vs H Q E h => ?_) (fun cdv A outer s H vs Q E hr h => ⟨t_check_yes K, PSs.nox ?_, pure_check_yes h⟩)
  · obtain ⟨_, _, rfl, _⟩ := h
    rfl
  · exact (pss_cons (ps_if (pt_not (pt_val (pe_callB call_isi (by rfl) T.n_isinstance (by decide +kernel) (pa_cons (pv 1) (pa_cons (pe_bltn (by rfl) T.n_tuple (by decide +kernel) rfl) pa_nil))))) (pss_one ps_never) pss_nil)
  (pss_one (ps_for PassesOwn.never rfl (pi_enumT (by rfl) T.n_enumerate (pa_cons (pv 1) pa_nil)) (pg_tup rfl (pgs_cons (pg_name (i := 2) sc.nd rfl (by first | exact Or.inl rfl | exact Or.inr rfl)) (pgs_cons (pg_name (i := 3) sc.nd rfl (by first | exact Or.inl rfl | exact Or.inr rfl)) pgs_nil))) (pss_one (ps_if (PW.pt (pw_or (pt_cmpR op_notIn_seq (pv 3) (pv 0) (by rfl)) (pw_or1 (pt_cmpR op_in_seq (pv 3) (pe_slice sl_tupA (pv 1) po_none (po_some (pv 2))) (by rfl))))) (pss_one ps_never) pss_nil)))))
theorem okr_check_yes (T : Tx K mg) : FnOk P w K mg base (L2N.CX P w) 3 (He.ga K "check_yes") (fdOf K (He.ga K "check_yes")) ["states", "yes"] (spr_check_yes K) := by
  have sc := sc_check_yes
  refine T.f_check_yes.ok sc (fun vs H Q E h => ?_) (fun cdv A outer s H vs Q E hr h => ⟨t_check_yes_x K E, ?_, pure_check_yes_x T.inX h⟩)
  · obtain ⟨_, _, rfl, _⟩ := h
    rfl
  · exact (pss_cons (ps_if (pt_not (pt_val (pe_callB call_isi (by rfl) T.n_isinstance (by decide +kernel) (pa_cons (pv 1) (pa_cons (pe_bltn (by rfl) T.n_tuple (by decide +kernel) rfl) pa_nil))))) (pss_one (ps_rs rfl T.xk_InvalidStates (ok_InvalidStates_init T) (hr.mono (by decide)) T.b_InvalidStates_init (L2N.takes_of rfl rfl rfl rfl) (by rfl) T.g_InvalidStates (pa_cons pe_non pa_nil))) pss_nil)
  (pss_one (ps_for (L2.passes_of rfl) rfl (pi_enumT (by rfl) T.n_enumerate (pa_cons (pv 1) pa_nil)) (pg_tup rfl (pgs_cons (pg_name (i := 2) sc.nd rfl (by first | exact Or.inl rfl | exact Or.inr rfl)) (pgs_cons (pg_name (i := 3) sc.nd rfl (by first | exact Or.inl rfl | exact Or.inr rfl)) pgs_nil))) (pss_one (ps_if (PW.pt (pw_or (pt_cmpR (op_notInK hr.u65) (pv 3) (pv 0) (by rfl)) (pw_or1 (pt_cmpR (op_inK hr.u65) (pv 3) (pe_slice sl_tupA (pv 1) po_none (po_some (pv 2))) (by rfl))))) (pss_one (ps_rs rfl T.xk_InvalidStates (ok_InvalidStates_init T) (hr.mono (by decide)) T.b_InvalidStates_init (L2N.takes_of rfl rfl rfl rfl) (by rfl) T.g_InvalidStates (pa_cons (pv 2) pa_nil))) pss_nil)))))
theorem okx_check_yes (T : Tx K mg) : FnOk P w K mg base (L2N.CX P w) 3 (He.ga K "check_yes") (fdOf K (He.ga K "check_yes")) ["states", "yes"] (spx_check_yes K) := FnOk_or (FnOk_lift ((ok_check_yes T).mono (by decide))) (okr_check_yes T) (by decide)
theorem sc_Loop_init : FnScope ["self", "signs", "states", "rows", "turns", "yes", "state", "sign", "later", "amount", "given"] ["self", "signs", "states", "rows", "turns", "yes"] (defScope st_Loop_init) := ⟨rfl, rfl, rfl, by decide +kernel, rfl, by decide +kernel, by decide +kernel⟩
theorem ok_Loop_init (T : Tx K mg) : FnOk P w K mg base CX0 4 (He.ma K (He.ga K "Loop") "__init__") (fdOf K (He.ma K (He.ga K "Loop") "__init__")) ["self", "signs", "states", "rows", "turns", "yes"] (sp_Loop_init K) := by
  have sc := sc_Loop_init
  refine T.f_Loop_init.ok sc (fun vs H Q E h => ?_) (fun cdv A outer s H vs Q E hr h => ⟨t_Loop_init K, PSs.nox ?_, pure_Loop_init T.loopK h⟩)
  · obtain ⟨_, _, _, _, _, _, _, rfl, _⟩ := h
    rfl
  · exact (pss_cons (ps_expr (pe_call (ok_check_signs T) (hr.mono (by decide)) (by rfl) T.g_check_signs T.k_check_signs T.b_check_signs .nil pass0 (pa_cons (pv 1) pa_nil)))
  (pss_cons (ps_expr (pe_call (ok_check_states T) (hr.mono (by decide)) (by rfl) T.g_check_states T.k_check_states T.b_check_states .nil pass0 (pa_cons (pv 2) pa_nil)))
  (pss_cons (ps_expr (pe_call (ok_check_rows T) (hr.mono (by decide)) (by rfl) T.g_check_rows T.k_check_rows T.b_check_rows .nil pass0 (pa_cons (pv 1) (pa_cons (pv 2) (pa_cons (pv 3) pa_nil)))))
  (pss_cons (ps_expr (pe_call (ok_check_turns T) (hr.mono (by decide)) (by rfl) T.g_check_turns T.k_check_turns T.b_check_turns .nil pass0 (pa_cons (pv 2) (pa_cons (pv 4) pa_nil))))
  (pss_cons (ps_expr (pe_call (ok_check_yes T) (hr.mono (by decide)) (by rfl) T.g_check_yes T.k_check_yes T.b_check_yes .nil pass0 (pa_cons (pv 2) (pa_cons (pv 5) pa_nil))))
  (pss_cons (ps_fld (pv 0) (pe_join pe_str (pe_callB (cr_srt rfl) (by rfl) T.n_sorted (by decide +kernel) (pa_cons (pv 1) pa_nil))) rfl)
  (pss_cons (ps_fld (pv 0) (pv 2) rfl)
  (pss_cons (ps_fld (pv 0) (pe_dcT (own := [("state", 6), ("sign", 7), ("later", 8), ("amount", 9)]) (by rfl) hr.u1 sc.nd (pi_tup (pv 3)) (blkOk_by (own := [("state", 6), ("sign", 7), ("later", 8), ("amount", 9)]) (by kernel_rfl)) (fun _ _ _ _ _ => (pg_tup rfl (pgs_cons (pg_name (i := 6) sc.nd rfl (by first | exact Or.inl rfl | exact Or.inr rfl)) (pgs_cons (pg_name (i := 7) sc.nd rfl (by first | exact Or.inl rfl | exact Or.inr rfl)) (pgs_cons (pg_name (i := 8) sc.nd rfl (by first | exact Or.inl rfl | exact Or.inr rfl)) (pgs_cons (pg_name (i := 9) sc.nd rfl (by first | exact Or.inl rfl | exact Or.inr rfl)) pgs_nil)))))) (fun _ _ _ _ _ => pts_nil) (fun _ _ _ _ _ => (pe_tup (pa_cons (pv 6) (pa_cons (pv 7) pa_nil)))) (fun _ _ _ _ _ => (pe_tup (pa_cons (pv 8) (pa_cons (pv 9) pa_nil))))) rfl)
  (pss_cons (ps_set (i := 10) sc.nd rfl (by first | exact Or.inl rfl | exact Or.inr rfl) (pe_dc (own := [("state", 6), ("later", 8), ("amount", 9)]) (by rfl) sc.nd (pi_tup (pv 4)) (blkOk_by (own := [("state", 6), ("later", 8), ("amount", 9)]) (by kernel_rfl)) (fun _ _ _ _ _ => (pg_tup rfl (pgs_cons (pg_name (i := 6) sc.nd rfl (by first | exact Or.inl rfl | exact Or.inr rfl)) (pgs_cons (pg_name (i := 8) sc.nd rfl (by first | exact Or.inl rfl | exact Or.inr rfl)) (pgs_cons (pg_name (i := 9) sc.nd rfl (by first | exact Or.inl rfl | exact Or.inr rfl)) pgs_nil))))) (fun _ _ _ _ _ => pts_nil) (fun _ _ _ _ _ => (pv 6)) (fun _ _ _ _ _ => (pe_tup (pa_cons (pv 8) (pa_cons (pv 9) pa_nil))))))
  (pss_cons (ps_fld (pv 0) (pe_dc (own := [("state", 6)]) (by rfl) sc.nd (pi_tup (pv 2)) (blkOk_by (own := [("state", 6)]) (by kernel_rfl)) (fun _ _ _ _ _ => pg_name (i := 6) sc.nd rfl (by first | exact Or.inl rfl | exact Or.inr rfl)) (fun _ _ _ _ _ => pts_nil) (fun _ _ _ _ _ => (pv 6)) (fun _ _ _ _ _ => (pe_dget2 hr.u1 (pv 10) (pv 6) (pe_tup (pa_cons (pv 6) (pa_cons pe_int pa_nil))) ⟨rfl, rfl, rfl, rfl⟩))) rfl)
  (pss_one (ps_fld (pv 0) (pe_callTy call_tuple_of (by rfl) T.n_tuple (by decide +kernel) (pa_cons (pe_lc (own := [("state", 6)]) (g := gName 6) (by rfl) sc.nd (pi_tup (pv 2)) (blkOk_by (own := [("state", 6)]) (by kernel_rfl)) (fun _ _ _ _ _ => pg_name (i := 6) sc.nd rfl (by first | exact Or.inl rfl | exact Or.inr rfl)) (fun _ _ _ _ _ => (pts_one (pt_cmpR op_in_seq (pv 6) (pv 5) (by rfl)))) (fun _ _ _ _ _ => (pv 6))) pa_nil)) rfl))))))))))))
theorem okr_Loop_init (T : Tx K mg) : FnOk P w K mg base (L2N.CX P w) 4 (He.ma K (He.ga K "Loop") "__init__") (fdOf K (He.ma K (He.ga K "Loop") "__init__")) ["self", "signs", "states", "rows", "turns", "yes"] (spr_Loop_init K) := by
  have sc := sc_Loop_init
  refine T.f_Loop_init.ok sc (fun vs H Q E h => ?_) (fun cdv A outer s H vs Q E hr h => ⟨t_Loop_init_x K E, ?_, pure_Loop_init_x h⟩)
  · obtain ⟨_, _, _, _, _, _, rfl, _⟩ := h
    rfl
  · exact (pss_cons (ps_expr (pe_call (okx_check_signs T) (hr.mono (by decide)) (by rfl) T.g_check_signs T.k_check_signs T.b_check_signs .nil (L2N.passes_call (L2N.takes_of rfl rfl rfl rfl) (fun _ _ _ _ h => h)) (pa_cons (pv 1) pa_nil)))
  (pss_cons (ps_expr (pe_call (okx_check_states T) (hr.mono (by decide)) (by rfl) T.g_check_states T.k_check_states T.b_check_states .nil (L2N.passes_call (L2N.takes_of rfl rfl rfl rfl) (fun _ _ _ _ h => h)) (pa_cons (pv 2) pa_nil)))
  (pss_cons (ps_expr (pe_call (okx_check_rows T) (hr.mono (by decide)) (by rfl) T.g_check_rows T.k_check_rows T.b_check_rows .nil (L2N.passes_call (L2N.takes_of rfl rfl rfl rfl) (fun _ _ _ _ h => h)) (pa_cons (pv 1) (pa_cons (pv 2) (pa_cons (pv 3) pa_nil)))))
  (pss_cons (ps_expr (pe_call (okx_check_turns T) (hr.mono (by decide)) (by rfl) T.g_check_turns T.k_check_turns T.b_check_turns .nil (L2N.passes_call (L2N.takes_of rfl rfl rfl rfl) (fun _ _ _ _ h => h)) (pa_cons (pv 2) (pa_cons (pv 4) pa_nil))))
  (pss_cons (ps_expr (pe_call (okx_check_yes T) (hr.mono (by decide)) (by rfl) T.g_check_yes T.k_check_yes T.b_check_yes .nil (L2N.passes_call (L2N.takes_of rfl rfl rfl rfl) (fun _ _ _ _ h => h)) (pa_cons (pv 2) (pa_cons (pv 5) pa_nil))))
  pss_never)))))
theorem okx_Loop_init (T : Tx K mg) : FnOk P w K mg base (L2N.CX P w) 4 (He.ma K (He.ga K "Loop") "__init__") (fdOf K (He.ma K (He.ga K "Loop") "__init__")) ["self", "signs", "states", "rows", "turns", "yes"] (spx_Loop_init K) := FnOk_or (FnOk_lift ((ok_Loop_init T).mono (by decide))) (okr_Loop_init T) (by decide)
theorem sc_law_cell : FnScope ["_law_script", "_law_k", "_law_mixed", "_law_cell_here"] ["_law_script", "_law_k"] (defScope st_law_cell) := ⟨rfl, rfl, rfl, by decide +kernel, rfl, by decide +kernel, by decide +kernel⟩
theorem ok_law_cell (T : Tx K mg) : FnOk P w K mg base CX0 1 (He.ga K "_law_cell") (fdOf K (He.ga K "_law_cell")) ["_law_script", "_law_k"] (sp_law_cell K) := by
  have sc := sc_law_cell
  refine T.f_law_cell.ok sc (fun vs H Q E h => ?_) (fun cdv A outer s H vs Q E hr h => ⟨t_law_cell K, PSs.nox ?_, pure_law_cell h⟩)
  · obtain ⟨_, _, _, rfl, _⟩ := h
    rfl
  · exact (pss_cons (ps_if (pt_cmpR op_lt (pv 1) (pe_callB call_len (by rfl) T.n_len (by decide +kernel) (pa_cons (pv 0) pa_nil)) (nomark _)) (pss_one (ps_ret (pe_ix ix_list (pv 0) (pv 1) (fun _ _ => rfl)))) pss_nil)
  (pss_cons (ps_set (i := 2) sc.nd rfl (by first | exact Or.inl rfl | exact Or.inr rfl) (pe_op op_add pe_int (pe_op op_mul (pe_op op_mul pe_int (pv 1)) (pv 1))))
  (pss_cons (ps_for PassesOwn.never rfl (pi_list (pe_slice sl_list (pv 0) po_none (po_some pe_int))) (pg_name (i := 3) sc.nd rfl (by first | exact Or.inl rfl | exact Or.inr rfl)) (pss_one (ps_set (i := 2) sc.nd rfl (by first | exact Or.inl rfl | exact Or.inr rfl) (pe_op op_mod (pe_callTy call_int1 (by rfl) T.n_int (by decide +kernel) (pa_cons (pe_op op_add (pe_op op_mul (pv 2) pe_int) (pv 3)) pa_nil)) pe_int))))
  (pss_one (ps_ret (pv 2))))))
theorem sc_law_pool : FnScope ["_law_cell_here", "_law_digits"] ["_law_cell_here"] (defScope st_law_pool) := ⟨rfl, rfl, rfl, by decide +kernel, rfl, by decide +kernel, by decide +kernel⟩
theorem ok_law_pool (T : Tx K mg) : FnOk P w K mg base CX0 1 (He.ga K "_law_pool") (fdOf K (He.ga K "_law_pool")) ["_law_cell_here"] (sp_law_pool K) := by
  have sc := sc_law_pool
  refine T.f_law_pool.ok sc (fun vs H Q E h => ?_) (fun cdv A outer s H vs Q E hr h => ⟨t_law_pool K, PSs.nox ?_, pure_law_pool h⟩)
  · obtain ⟨_, rfl, _⟩ := h
    rfl
  · exact (pss_cons (ps_set (i := 1) sc.nd rfl (by first | exact Or.inl rfl | exact Or.inr rfl) (pe_ifExp (PW.pt (pw_or (pt_cmpR op_lt (pv 0) pe_int (nomark _)) (pw_or1 (pt_cmpR op_ge (pv 0) (pe_op op_pow pe_int pe_int) (nomark _))))) (pe_callB call_abs (by rfl) T.n_abs (by decide +kernel) (pa_cons (pv 0) pa_nil)) pe_int))
  (pss_one (ps_ret (pe_lst (pa_cons (pe_op op_mod (pe_callTy call_int1 (by rfl) T.n_int (by decide +kernel) (pa_cons (pv 0) pa_nil)) pe_int) (pa_cons (pv 1) (pa_cons pe_int pa_nil)))))))
theorem sc_law_draw : FnScope ["_law_pool_here", "_law_many", "_law_mixed", "_law_digit"] ["_law_pool_here", "_law_many"] (defScope st_law_draw) := ⟨rfl, rfl, rfl, by decide +kernel, rfl, by decide +kernel, by decide +kernel⟩
theorem ok_law_draw (T : Tx K mg) : FnOk P w K mg base CX0 1 (He.ga K "_law_draw") (fdOf K (He.ga K "_law_draw")) ["_law_pool_here", "_law_many"] (sp_law_draw K) := by
  have sc := sc_law_draw
  refine T.f_law_draw.ok sc (fun vs H Q E h => ?_) (fun cdv A outer s H vs Q E hr h => ⟨t_law_draw K, PSs.nox ?_, pure_law_draw h⟩)
  · obtain ⟨_, _, rfl, _⟩ := h
    rfl
  · exact (pss_cons (ps_asg (pe_op op_add (pe_ix ix_list (pv 0) pe_int (fun _ _ => rfl)) pe_int) (pg_sub (pv 0) pe_int set_list))
  (pss_cons (ps_set (i := 2) sc.nd rfl (by first | exact Or.inl rfl | exact Or.inr rfl) (pe_op op_mod (pe_callTy call_int1 (by rfl) T.n_int (by decide +kernel) (pa_cons (pe_op op_add (pe_op op_add (pe_op op_mul (pe_ix ix_list (pv 0) pe_int (fun _ _ => rfl)) pe_int) (pe_op op_mul (pe_ix ix_list (pv 0) pe_int (fun _ _ => rfl)) pe_int)) pe_int) pa_nil)) pe_int))
  (pss_cons (ps_asg (pe_op op_mod (pe_callTy call_int1 (by rfl) T.n_int (by decide +kernel) (pa_cons (pe_op op_mul (pv 2) (pe_op op_add (pe_op op_fdiv (pv 2) pe_int) pe_int)) pa_nil)) pe_int) (pg_sub (pv 0) pe_int set_list))
  (pss_cons (ps_if (pt_cmpR op_gt (pe_ix ix_list (pv 0) pe_int (fun _ _ => rfl)) pe_int (nomark _)) (pss_cons (ps_asg (pe_callB call_divmodW (by rfl) T.n_divmod (by decide +kernel) (pa_cons (pe_ix ix_list (pv 0) pe_int (fun _ _ => rfl)) (pa_cons (pv 1) pa_nil))) (pg_tup rfl (pgs_cons (pg_sub (pv 0) pe_int set_list) (pgs_cons (pg_name (i := 3) sc.nd rfl (by first | exact Or.inl rfl | exact Or.inr rfl)) pgs_nil))))
  (pss_one (ps_ret (pv 3)))) pss_nil)
  (pss_one (ps_ret (pe_op op_mod (pe_callTy call_int1 (by rfl) T.n_int (by decide +kernel) (pa_cons (pe_op op_fdiv (pe_ix ix_list (pv 0) pe_int (fun _ _ => rfl)) pe_int) pa_nil)) (pv 1))))))))
theorem sc_law_shufU : FnScope ["_law_pool_here", "_law_things", "_law_rest", "_law_found", "_law_turn"] ["_law_pool_here", "_law_things"] (defScope st_law_shufU) := ⟨rfl, rfl, rfl, by decide +kernel, rfl, by decide +kernel, by decide +kernel⟩
theorem ok_law_shufU (T : Tx K mg) : FnOk P w K mg base CX0 2 (He.ga K "_law_shuffled") (fdOf K (He.ga K "_law_shuffled")) ["_law_pool_here", "_law_things"] (sp_law_shufU K) := by
  have sc := sc_law_shufU
  refine T.f_law_shufU.ok sc (fun vs H Q E h => ?_) (fun cdv A outer s H vs Q E hr h => ⟨t_law_shufU K, PSs.nox ?_, pure_law_shufU h⟩)
  · obtain ⟨_, _, rfl, _⟩ := h
    rfl
  · exact (pss_cons (ps_par (by rfl) sc.nd rfl rfl (by decide) rfl rfl (pa_cons (pe_callTy (call_listU rfl) (by rfl) T.n_list (by decide +kernel) (pa_cons (pv 1) pa_nil)) (pa_cons (pe_lst pa_nil) pa_nil)) (by rfl))
  (pss_cons (ps_for PassesOwn.never rfl (pi_range1 (by rfl) T.n_range (pa_cons (pe_callB call_len (by rfl) T.n_len (by decide +kernel) (pa_cons (pv 1) pa_nil)) pa_nil)) (pg_name (i := 4) sc.nd rfl (by first | exact Or.inl rfl | exact Or.inr rfl)) (pss_one (ps_expr (pe_bm PySem.F.plainAttrs_list PySem.F.slot_list_append PySem.F.type_list_append mt_append (pv 3) (pa_cons (pe_bm PySem.F.plainAttrs_list PySem.F.slot_list_pop PySem.F.type_list_pop mt_popAt (pv 2) (pa_cons (pe_call (ok_law_draw T) (hr.mono (by decide)) (by rfl) T.g_law_draw T.k_law_draw T.b_law_draw .nil pass0 (pa_cons (pv 0) (pa_cons (pe_callB call_len (by rfl) T.n_len (by decide +kernel) (pa_cons (pv 2) pa_nil)) pa_nil))) pa_nil)) pa_nil)))))
  (pss_one (ps_ret (pv 3)))))
theorem sc_law_faceX : FnScope ["_law_thing", "_law_part", "_law_key"] ["_law_thing"] (defScope st_law_faceX) := ⟨rfl, rfl, rfl, by decide +kernel, rfl, by decide +kernel, by decide +kernel⟩
theorem ok_law_faceX (T : Tx K mg) : ∀ n : Nat, FnOk P w K mg base CX0 (n + 1) (He.ga K "_law_face") (fdOf K (He.ga K "_law_face")) ["_law_thing"] (sp_law_faceX K n)
  | 0 => T.f_law_faceX.ok sc_law_faceX (fun vs H Q E h => False.elim h) (fun cdv A outer s H vs Q E hr h => False.elim h)
  | n + 1 => by
    have sc := sc_law_faceX
    have ih := ok_law_faceX T n
    refine T.f_law_faceX.ok sc (fun vs H Q E h => ?_) (fun cdv A outer s H vs Q E hr h => ⟨t_law_faceX K n, PSs.nox ?_, pure_law_faceX h⟩)
    · obtain ⟨_, rfl, _⟩ := h
      rfl
    · exact (pss_cons (ps_if (pt_val (pe_callB call_isi (by rfl) T.n_isinstance (by decide +kernel) (pa_cons (pv 0) (pa_cons (pe_bltn (by rfl) T.n_tuple (by decide +kernel) rfl) pa_nil)))) (pss_one (ps_ret (pe_op op_cat (pe_lst (pa_cons pe_str pa_nil)) (pe_lc (own := [("_law_part", 1)]) (g := gName 1) (by rfl) sc.nd (pi_tup (pv 0)) (blkOk_by (own := [("_law_part", 1)]) (by kernel_rfl)) (fun _ _ _ _ _ => pg_name (i := 1) sc.nd rfl (by first | exact Or.inl rfl | exact Or.inr rfl)) (fun _ _ _ _ _ => pts_nil) (fun _ _ _ _ _ => (pe_call ih (hr.mono (by omega)) (by rfl) T.g_law_faceX T.k_law_faceX T.b_law_faceX .nil pass0 (pa_cons (pv 1) pa_nil))))))) pss_nil)
  (pss_cons (ps_if (pt_val (pe_callB call_isi (by rfl) T.n_isinstance (by decide +kernel) (pa_cons (pv 0) (pa_cons (pe_bltn (by rfl) T.n_list (by decide +kernel) rfl) pa_nil)))) (pss_one (ps_ret (pe_op op_cat (pe_lst (pa_cons pe_str pa_nil)) (pe_lc (own := [("_law_part", 1)]) (g := gName 1) (by rfl) sc.nd (pi_list (pv 0)) (blkOk_by (own := [("_law_part", 1)]) (by kernel_rfl)) (fun _ _ _ _ _ => pg_name (i := 1) sc.nd rfl (by first | exact Or.inl rfl | exact Or.inr rfl)) (fun _ _ _ _ _ => pts_nil) (fun _ _ _ _ _ => (pe_call ih (hr.mono (by omega)) (by rfl) T.g_law_faceX T.k_law_faceX T.b_law_faceX .nil pass0 (pa_cons (pv 1) pa_nil))))))) pss_nil)
  (pss_cons (ps_if (pt_val (pe_callB call_isi (by rfl) T.n_isinstance (by decide +kernel) (pa_cons (pv 0) (pa_cons (pe_bltn (by rfl) T.n_dict (by decide +kernel) rfl) pa_nil)))) (pss_one (ps_ret (pe_op op_cat (pe_lst (pa_cons pe_str pa_nil)) (pe_lock (pe_lc (own := [("_law_key", 2)]) (g := gName 2) (by rfl) sc.nd (pi_keys (pv 0)) (blkOk_by (own := [("_law_key", 2)]) (by kernel_rfl)) (fun _ _ _ _ _ => pg_name (i := 2) sc.nd rfl (by first | exact Or.inl rfl | exact Or.inr rfl)) (fun _ _ _ _ _ => pts_nil) (fun _ _ _ _ _ => (pe_lst (pa_cons (pe_call ih (hr.mono (by omega)) (by rfl) T.g_law_faceX T.k_law_faceX T.b_law_faceX .nil pass0 (pa_cons (pv 2) pa_nil)) (pa_cons (pe_call ih (hr.mono (by omega)) (by rfl) T.g_law_faceX T.k_law_faceX T.b_law_faceX .nil pass0 (pa_cons (pe_dget hr.u1 (pv 0) (pv 2) (fun _ _ => rfl)) pa_nil)) pa_nil))))))))) pss_nil)
  (pss_one (ps_ret (pe_lst (pa_cons (pe_ifExp (pt_val (pe_callB call_isi (by rfl) T.n_isinstance (by decide +kernel) (pa_cons (pv 0) (pa_cons (pe_bltn (by rfl) T.n_bool (by decide +kernel) rfl) pa_nil)))) pe_str pe_str) (pa_cons (pv 0) pa_nil))))))))
theorem sc_law_wholeK : FnScope ["_law_thing"] ["_law_thing"] (defScope st_law_wholeK) := ⟨rfl, rfl, rfl, by decide +kernel, rfl, by decide +kernel, by decide +kernel⟩
theorem ok_law_wholeK (T : Tx K mg) : FnOk P w K mg base CX0 1 (He.ga K "_law_whole") (fdOf K (He.ga K "_law_whole")) ["_law_thing"] (sp_law_wholeK K) := by
  have sc := sc_law_wholeK
  refine T.f_law_wholeK.ok sc (fun vs H Q E h => ?_) (fun cdv A outer s H vs Q E hr h => ⟨t_law_wholeK K, PSs.nox ?_, pure_law_wholeK h⟩)
  · obtain ⟨_, _, rfl, _⟩ := h
    rfl
  · exact (pss_one (ps_ret (pe_and (pe_callB call_isi (by rfl) T.n_isinstance (by decide +kernel) (pa_cons (pv 0) (pa_cons (pe_bltn (by rfl) T.n_int (by decide +kernel) rfl) pa_nil))) (pe_one (pe_not (pe_callB call_isi (by rfl) T.n_isinstance (by decide +kernel) (pa_cons (pv 0) (pa_cons (pe_bltn (by rfl) T.n_bool (by decide +kernel) rfl) pa_nil))))))))
theorem sc_law_oddM : FnScope ["_law_pool_here", "_law_way"] ["_law_pool_here"] (defScope st_law_oddM) := ⟨rfl, rfl, rfl, by decide +kernel, rfl, by decide +kernel, by decide +kernel⟩
theorem ok_law_oddM (T : Tx K mg) : FnOk P w K mg base CX0 2 (He.ga K "_law_odd") (fdOf K (He.ga K "_law_odd")) ["_law_pool_here"] (sp_law_oddM K) := by
  have sc := sc_law_oddM
  refine T.f_law_oddM.ok sc (fun vs H Q E h => ?_) (fun cdv A outer s H vs Q E hr h => ⟨t_law_oddM K, PSs.nox ?_, pure_law_oddM h⟩)
  · obtain ⟨_, _, rfl, _⟩ := h
    rfl
  · exact (pss_cons (ps_set (i := 1) sc.nd rfl (by first | exact Or.inl rfl | exact Or.inr rfl) (pe_call (ok_law_draw T) (hr.mono (by decide)) (by rfl) T.g_law_draw T.k_law_draw T.b_law_draw .nil pass0 (pa_cons (pv 0) (pa_cons pe_int pa_nil))))
  (pss_cons (ps_if (pt_cmpR op_lt (pv 1) pe_int (nomark _)) (pss_one (ps_ret (pe_ix ix_list (pe_lst (pa_cons pe_non (pa_cons pe_bl (pa_cons pe_bl (pa_cons pe_int (pa_cons pe_int (pa_cons (pe_un un_neg pe_int) (pa_cons pe_int (pa_cons pe_int (pa_cons pe_int (pa_cons (pe_op op_pow pe_int pe_int) (pa_cons (pe_un un_neg (pe_op op_pow pe_int pe_int)) pa_nil)))))))))))) (pv 1) (fun _ _ => rfl)))) pss_nil)
  (pss_cons (ps_if (pt_cmpR op_lt (pv 1) pe_int (nomark _)) (pss_one (ps_ret (pe_ix ix_list (pe_lst (pa_cons pe_str (pa_cons pe_str (pa_cons pe_str (pa_cons pe_str (pa_cons pe_str (pa_cons pe_str (pa_cons pe_str (pa_cons pe_str pa_nil))))))))) (pe_op op_sub (pv 1) pe_int) (fun _ _ => rfl)))) pss_nil)
  (pss_cons (ps_if (pt_cmpR op_lt (pv 1) pe_int (nomark _)) (pss_one (ps_ret (pe_ix ix_list (pe_lst (pa_cons (pe_lst pa_nil) (pa_cons (pe_lst (pa_cons pe_str pa_nil)) (pa_cons pe_dnewK (pa_cons (pe_disp (pps_cons pe_str pe_int pps_nil) rfl rfl (by simp) (by decide)) pa_nil))))) (pe_op op_sub (pv 1) pe_int) (fun _ _ => rfl)))) pss_nil)
  (pss_one (ps_ret (pe_ix ix_list (pe_lst (pa_cons (pe_tup pa_nil) (pa_cons (pe_tup (pa_cons pe_str pa_nil)) (pa_cons (pe_tup (pa_cons pe_int (pa_cons pe_int pa_nil))) (pa_cons (pe_tup (pa_cons (pe_lst pa_nil) (pa_cons (pe_disp (pps_cons pe_str (pe_tup (pa_cons pe_int (pa_cons (pe_lst pa_nil) pa_nil))) pps_nil) rfl rfl (by simp) (by decide)) pa_nil))) pa_nil))))) (pe_op op_sub (pv 1) pe_int) (fun _ _ => rfl))))))))
theorem sc_law_signs : FnScope ["_law_pool_here", "_law_most", "_law_found", "_law_turn", "_law_rest", "_law_mark"] ["_law_pool_here", "_law_most"] (defScope st_law_signs) := ⟨rfl, rfl, rfl, by decide +kernel, rfl, by decide +kernel, by decide +kernel⟩
theorem ok_law_signs (T : Tx K mg) : FnOk P w K mg base CX0 2 (He.ga K "_law_signs") (fdOf K (He.ga K "_law_signs")) ["_law_pool_here", "_law_most"] (sp_law_signs K) := by
  have sc := sc_law_signs
  refine T.f_law_signs.ok sc (fun vs H Q E h => ?_) (fun cdv A outer s H vs Q E hr h => ⟨t_law_signs K, PSs.nox ?_, pure_law_signs h⟩)
  · obtain ⟨_, _, rfl, _⟩ := h
    rfl
  · exact (pss_cons (ps_set (i := 2) sc.nd rfl (by first | exact Or.inl rfl | exact Or.inr rfl) pe_str)
  (pss_cons (ps_for PassesOwn.never rfl (pi_range1 (by rfl) T.n_range (pa_cons (pe_op op_add pe_int (pe_call (ok_law_draw T) (hr.mono (by decide)) (by rfl) T.g_law_draw T.k_law_draw T.b_law_draw .nil pass0 (pa_cons (pv 0) (pa_cons (pv 1) pa_nil)))) pa_nil)) (pg_name (i := 3) sc.nd rfl (by first | exact Or.inl rfl | exact Or.inr rfl)) (pss_cons (ps_setLc (i := 4) (own := [("_law_mark", 5)]) (g := gName 5) (by rfl) sc.nd rfl rfl (sw_true rfl rfl rfl (by decide +kernel)) (pi_str pe_str) (blkOk_by (own := [("_law_mark", 5)]) (by kernel_rfl)) (fun _ _ _ _ _ => pg_name (i := 5) sc.nd rfl (by first | exact Or.inl rfl | exact Or.inr rfl)) (fun _ _ _ _ _ => (pts_one (pt_cmpR op_notIn_sign (pv 5) (pv 2) (by rfl)))) (fun _ _ _ _ _ => (pv 5)))
  (pss_one (ps_set (i := 2) sc.nd rfl (by first | exact Or.inl rfl | exact Or.inr rfl) (pe_op op_addS (pv 2) (pe_ix ix_list (pv 4) (pe_call (ok_law_draw T) (hr.mono (by decide)) (by rfl) T.g_law_draw T.k_law_draw T.b_law_draw .nil pass0 (pa_cons (pv 0) (pa_cons (pe_callB call_len (by rfl) T.n_len (by decide +kernel) (pa_cons (pv 4) pa_nil)) pa_nil))) (fun _ _ => rfl)))))))
  (pss_one (ps_ret (pv 2)))))
theorem sc_law_is_word : FnScope ["_law_thing", "_law_abc", "_law_mark"] ["_law_thing", "_law_abc"] (defScope st_law_is_word) := ⟨rfl, rfl, rfl, by decide +kernel, rfl, by decide +kernel, by decide +kernel⟩
theorem ok_law_is_word (T : Tx K mg) : FnOk P w K mg base CX0 1 (He.ga K "_law_is_word") (fdOf K (He.ga K "_law_is_word")) ["_law_thing", "_law_abc"] (sp_law_is_word K) := by
  have sc := sc_law_is_word
  refine T.f_law_is_word.ok sc (fun vs H Q E h => ?_) (fun cdv A outer s H vs Q E hr h => ⟨t_law_is_word K, PSs.nox ?_, pure_law_is_word h⟩)
  · obtain ⟨_, _, rfl, _⟩ := h
    rfl
  · exact (pss_cons (ps_if (PW.pt (pw_or (pt_not (pt_val (pe_callB call_isi (by rfl) T.n_isinstance (by decide +kernel) (pa_cons (pv 0) (pa_cons (pe_bltn (by rfl) T.n_str (by decide +kernel) rfl) pa_nil))))) (pw_or (pt_cmpR op_eq (pv 0) pe_str (nomark _)) (pw_or1 (pt_cmpR op_gt (pe_callB call_len (by rfl) T.n_len (by decide +kernel) (pa_cons (pv 0) pa_nil)) pe_int (nomark _)))))) (pss_one (ps_ret pe_bl)) pss_nil)
  (pss_one (ps_ret (pe_cmpR (op_eqD hr.units) (pe_lc (own := [("_law_mark", 2)]) (g := gName 2) (by rfl) sc.nd (pi_str (pv 0)) (blkOk_by (own := [("_law_mark", 2)]) (by kernel_rfl)) (fun _ _ _ _ _ => pg_name (i := 2) sc.nd rfl (by first | exact Or.inl rfl | exact Or.inr rfl)) (fun _ _ _ _ _ => (pts_one (pt_cmpR op_notIn_sign (pv 2) (pv 1) (by rfl)))) (fun _ _ _ _ _ => (pv 2))) (pe_lst pa_nil) (nomark _)))))
theorem sc_law_name : FnScope ["_law_pool_here", "_law_found", "_law_marks", "_law_near", "_law_turn", "_law_old", "_law_at", "_law_spares", "_law_mate", "_law_mark"] ["_law_pool_here", "_law_found"] (defScope st_law_name) := ⟨rfl, rfl, rfl, by decide +kernel, rfl, by decide +kernel, by decide +kernel⟩
theorem ok_law_name (T : Tx K mg) : FnOk P w K mg base CX0 2 (He.ga K "_law_name") (fdOf K (He.ga K "_law_name")) ["_law_pool_here", "_law_found"] (sp_law_name K) := by
  have sc := sc_law_name
  refine T.f_law_name.ok sc (fun vs H Q E h => ?_) (fun cdv A outer s H vs Q E hr h => ⟨t_law_name K, PSs.nox ?_, pure_law_name h⟩)
  · obtain ⟨_, _, rfl, _⟩ := h
    rfl
  · exact (pss_cons (ps_set (i := 2) sc.nd rfl (by first | exact Or.inl rfl | exact Or.inr rfl) pe_str)
  (pss_cons (ps_set (i := 3) sc.nd rfl (by first | exact Or.inl rfl | exact Or.inr rfl) (pe_ix ix_str (pv 2) (pe_call (ok_law_draw T) (hr.mono (by decide)) (by rfl) T.g_law_draw T.k_law_draw T.b_law_draw .nil pass0 (pa_cons (pv 0) (pa_cons pe_int pa_nil))) (fun _ _ => rfl)))
  (pss_cons (ps_set (i := 3) sc.nd rfl (by first | exact Or.inl rfl | exact Or.inr rfl) (pe_op op_addS (pv 3) (pe_join pe_str (pe_lc (own := [("_law_turn", 4)]) (g := gName 4) (by rfl) sc.nd (pi_range1 (by rfl) T.n_range (pa_cons (pe_call (ok_law_draw T) (hr.mono (by decide)) (by rfl) T.g_law_draw T.k_law_draw T.b_law_draw .nil pass0 (pa_cons (pv 0) (pa_cons pe_int pa_nil))) pa_nil)) (blkOk_by (own := [("_law_turn", 4)]) (by kernel_rfl)) (fun _ _ _ _ _ => pg_name (i := 4) sc.nd rfl (by first | exact Or.inl rfl | exact Or.inr rfl)) (fun _ _ _ _ _ => pts_nil) (fun _ _ _ _ _ => (pe_ix ix_str (pv 2) (pe_call (ok_law_draw T) (hr.mono (by decide)) (by rfl) T.g_law_draw T.k_law_draw T.b_law_draw .nil pass0 (pa_cons (pv 0) (pa_cons pe_int pa_nil))) (fun _ _ => rfl)))))))
  (pss_cons (ps_if (PW.pt (pw_and (pt_cmpR (op_neD hr.units) (pv 1) (pe_lst pa_nil) (nomark _)) (pw_and1 (pt_cmpR op_gt (pe_call (ok_law_draw T) (hr.mono (by decide)) (by rfl) T.g_law_draw T.k_law_draw T.b_law_draw .nil pass0 (pa_cons (pv 0) (pa_cons pe_int pa_nil))) pe_int (nomark _))))) (pss_cons (ps_set (i := 5) sc.nd rfl (by first | exact Or.inl rfl | exact Or.inr rfl) (pe_ix ix_list (pv 1) (pe_call (ok_law_draw T) (hr.mono (by decide)) (by rfl) T.g_law_draw T.k_law_draw T.b_law_draw .nil pass0 (pa_cons (pv 0) (pa_cons (pe_callB call_len (by rfl) T.n_len (by decide +kernel) (pa_cons (pv 1) pa_nil)) pa_nil))) (fun _ _ => rfl)))
  (pss_cons (ps_set (i := 6) sc.nd rfl (by first | exact Or.inl rfl | exact Or.inr rfl) (pe_op op_add pe_int (pe_call (ok_law_draw T) (hr.mono (by decide)) (by rfl) T.g_law_draw T.k_law_draw T.b_law_draw .nil pass0 (pa_cons (pv 0) (pa_cons (pe_callB call_len (by rfl) T.n_len (by decide +kernel) (pa_cons (pv 5) pa_nil)) pa_nil)))))
  (pss_one (ps_set (i := 3) sc.nd rfl (by first | exact Or.inl rfl | exact Or.inr rfl) (pe_slice sl_str (pe_op op_addS (pe_op op_addS (pe_slice sl_str (pv 5) po_none (po_some (pv 6))) (pe_ix ix_str (pv 2) (pe_call (ok_law_draw T) (hr.mono (by decide)) (by rfl) T.g_law_draw T.k_law_draw T.b_law_draw .nil pass0 (pa_cons (pv 0) (pa_cons pe_int pa_nil))) (fun _ _ => rfl))) (pe_slice sl_str (pv 5) (po_some (pe_op op_add (pv 6) (pe_call (ok_law_draw T) (hr.mono (by decide)) (by rfl) T.g_law_draw T.k_law_draw T.b_law_draw .nil pass0 (pa_cons (pv 0) (pa_cons pe_int pa_nil))))) po_none)) po_none (po_some pe_int)))))) pss_nil)
  (pss_cons (ps_setLc (i := 7) (own := [("_law_mate", 8)]) (g := gName 8) (by rfl) sc.nd rfl rfl (sw_true rfl rfl rfl (by decide +kernel)) (pi_list (pe_op op_cat (pe_lst (pa_cons (pv 3) pa_nil)) (pe_lc (own := [("_law_mark", 9)]) (g := gName 9) (by rfl) sc.nd (pi_str (pe_slice sl_str (pv 2) po_none (po_some pe_int))) (blkOk_by (own := [("_law_mark", 9)]) (by kernel_rfl)) (fun _ _ _ _ _ => pg_name (i := 9) sc.nd rfl (by first | exact Or.inl rfl | exact Or.inr rfl)) (fun _ _ _ _ _ => pts_nil) (fun _ _ _ _ _ => (pe_op op_addS pe_str (pv 9)))))) (blkOk_by (own := [("_law_mate", 8)]) (by kernel_rfl)) (fun _ _ _ _ _ => pg_name (i := 8) sc.nd rfl (by first | exact Or.inl rfl | exact Or.inr rfl)) (fun _ _ _ _ _ => (pts_one (pt_cmpR op_notIn_seq (pv 8) (pv 1) (by rfl)))) (fun _ _ _ _ _ => (pv 8)))
  (pss_one (ps_ret (pe_ix ix_list (pv 7) pe_int (fun _ _ => rfl)))))))))
theorem sc_law_names : FnScope ["_law_pool_here", "_law_many", "_law_found", "_law_turn"] ["_law_pool_here", "_law_many"] (defScope st_law_names) := ⟨rfl, rfl, rfl, by decide +kernel, rfl, by decide +kernel, by decide +kernel⟩
theorem ok_law_names (T : Tx K mg) : FnOk P w K mg base CX0 3 (He.ga K "_law_names") (fdOf K (He.ga K "_law_names")) ["_law_pool_here", "_law_many"] (sp_law_names K) := by
  have sc := sc_law_names
  refine T.f_law_names.ok sc (fun vs H Q E h => ?_) (fun cdv A outer s H vs Q E hr h => ⟨t_law_names K, PSs.nox ?_, pure_law_names h⟩)
  · obtain ⟨_, _, rfl, _⟩ := h
    rfl
  · exact (pss_cons (ps_set (i := 2) sc.nd rfl (by first | exact Or.inl rfl | exact Or.inr rfl) (pe_lst pa_nil))
  (pss_cons (ps_for PassesOwn.never rfl (pi_range1 (by rfl) T.n_range (pa_cons (pv 1) pa_nil)) (pg_name (i := 3) sc.nd rfl (by first | exact Or.inl rfl | exact Or.inr rfl)) (pss_one (ps_expr (pe_bm PySem.F.plainAttrs_list PySem.F.slot_list_append PySem.F.type_list_append mt_append (pv 2) (pa_cons (pe_call (ok_law_name T) (hr.mono (by decide)) (by rfl) T.g_law_name T.k_law_name T.b_law_name .nil pass0 (pa_cons (pv 0) (pa_cons (pv 2) pa_nil))) pa_nil)))))
  (pss_one (ps_ret (pv 2)))))
theorem ok_law_namesA (T : Tx K mg) : FnOk P w K mg base CX0 3 (He.ga K "_law_names") (fdOf K (He.ga K "_law_names")) ["_law_pool_here", "_law_many"] (sp_law_namesA K) := by
  have sc := sc_law_names
  refine T.f_law_names.ok sc (fun vs H Q E h => ?_) (fun cdv A outer s H vs Q E hr h => ⟨t_law_namesA K, PSs.nox ?_, pure_law_namesA h⟩)
  · obtain ⟨_, _, rfl, _⟩ := h
    rfl
  · exact (pss_cons (ps_set (i := 2) sc.nd rfl (by first | exact Or.inl rfl | exact Or.inr rfl) (pe_lst pa_nil))
  (pss_cons (ps_for PassesOwn.never rfl (pi_range1 (by rfl) T.n_range (pa_cons (pv 1) pa_nil)) (pg_name (i := 3) sc.nd rfl (by first | exact Or.inl rfl | exact Or.inr rfl)) (pss_one (ps_expr (pe_bm PySem.F.plainAttrs_list PySem.F.slot_list_append PySem.F.type_list_append mt_append (pv 2) (pa_cons (pe_call (ok_law_name T) (hr.mono (by decide)) (by rfl) T.g_law_name T.k_law_name T.b_law_name .nil pass0 (pa_cons (pv 0) (pa_cons (pv 2) pa_nil))) pa_nil)))))
  (pss_one (ps_ret (pv 2)))))
theorem sc_law_amount : FnScope ["_law_pool_here", "_law_great", "_law_way"] ["_law_pool_here", "_law_great"] (defScope st_law_amount) := ⟨rfl, rfl, rfl, by decide +kernel, rfl, by decide +kernel, by decide +kernel⟩
theorem ok_law_amount (T : Tx K mg) : FnOk P w K mg base CX0 2 (He.ga K "_law_amount") (fdOf K (He.ga K "_law_amount")) ["_law_pool_here", "_law_great"] (sp_law_amount K) := by
  have sc := sc_law_amount
  refine T.f_law_amount.ok sc (fun vs H Q E h => ?_) (fun cdv A outer s H vs Q E hr h => ⟨t_law_amount K, PSs.nox ?_, pure_law_amount h⟩)
  · obtain ⟨_, _, rfl, _⟩ := h
    rfl
  · exact (pss_cons (ps_set (i := 2) sc.nd rfl (by first | exact Or.inl rfl | exact Or.inr rfl) (pe_call (ok_law_draw T) (hr.mono (by decide)) (by rfl) T.g_law_draw T.k_law_draw T.b_law_draw .nil pass0 (pa_cons (pv 0) (pa_cons pe_int pa_nil))))
  (pss_cons (ps_if (pt_cmpR op_lt (pv 2) pe_int (nomark _)) (pss_one (ps_ret (pe_op op_sub (pe_call (ok_law_draw T) (hr.mono (by decide)) (by rfl) T.g_law_draw T.k_law_draw T.b_law_draw .nil pass0 (pa_cons (pv 0) (pa_cons pe_int pa_nil))) pe_int))) pss_nil)
  (pss_cons (ps_if (PW.pt (pw_or (pt_cmpR op_lt (pv 2) pe_int (nomark _)) (pw_or1 (pt_not (pt_val (pv 1)))))) (pss_one (ps_ret (pe_op op_sub (pe_call (ok_law_draw T) (hr.mono (by decide)) (by rfl) T.g_law_draw T.k_law_draw T.b_law_draw .nil pass0 (pa_cons (pv 0) (pa_cons pe_int pa_nil))) pe_int))) pss_nil)
  (pss_one (ps_ret (pe_ix ix_list (pe_lst (pa_cons (pe_op op_pow pe_int pe_int) (pa_cons (pe_op op_sub (pe_un un_neg (pe_op op_pow pe_int pe_int)) pe_int) (pa_cons (pe_op op_add (pe_op op_pow pe_int pe_int) pe_int) (pa_cons (pe_un un_neg (pe_op op_pow pe_int pe_int)) pa_nil))))) (pe_call (ok_law_draw T) (hr.mono (by decide)) (by rfl) T.g_law_draw T.k_law_draw T.b_law_draw .nil pass0 (pa_cons (pv 0) (pa_cons pe_int pa_nil))) (fun _ _ => rfl)))))))
theorem sc_law_model : FnScope ["_law_pool_here", "_law_abc", "_law_most", "_law_great", "_law_posts", "_law_steps", "_law_ends", "_law_post", "_law_mark", "_law_oks"] ["_law_pool_here", "_law_abc", "_law_most", "_law_great"] (defScope st_law_model) := ⟨rfl, rfl, rfl, by decide +kernel, rfl, by decide +kernel, by decide +kernel⟩
theorem ok_law_model (T : Tx K mg) : FnOk P w K mg base CX0 4 (He.ga K "_law_model") (fdOf K (He.ga K "_law_model")) ["_law_pool_here", "_law_abc", "_law_most", "_law_great"] (sp_law_model K) := by
  have sc := sc_law_model
  refine T.f_law_model.ok sc (fun vs H Q E h => ?_) (fun cdv A outer s H vs Q E hr h => ⟨t_law_model K, PSs.nox ?_, pure_law_model h⟩)
  · obtain ⟨_, _, _, _, rfl, _⟩ := h
    rfl
  · exact (pss_cons (ps_set (i := 4) sc.nd rfl (by first | exact Or.inl rfl | exact Or.inr rfl) (pe_call (ok_law_names T) (hr.mono (by decide)) (by rfl) T.g_law_names T.k_law_names T.b_law_names .nil pass0 (pa_cons (pv 0) (pa_cons (pe_op op_add pe_int (pe_call (ok_law_draw T) (hr.mono (by decide)) (by rfl) T.g_law_draw T.k_law_draw T.b_law_draw .nil pass0 (pa_cons (pv 0) (pa_cons (pv 2) pa_nil)))) pa_nil))))
  (pss_cons (ps_par (by rfl) sc.nd rfl rfl (by decide) rfl rfl (pa_cons pe_dnewT (pa_cons pe_dnewK pa_nil)) (by rfl))
  (pss_cons (ps_for PassesOwn.never rfl (pi_list (pv 4)) (pg_name (i := 7) sc.nd rfl (by first | exact Or.inl rfl | exact Or.inr rfl)) (pss_cons (ps_for PassesOwn.never rfl (pi_str (pv 1)) (pg_name (i := 8) sc.nd rfl (by first | exact Or.inl rfl | exact Or.inr rfl)) (pss_one (ps_dput hr.u1 (pv 5) (pe_tup (pa_cons (pv 7) (pa_cons (pv 8) pa_nil))) (pe_tup (pa_cons (pe_ix ix_list (pv 4) (pe_call (ok_law_draw T) (hr.mono (by decide)) (by rfl) T.g_law_draw T.k_law_draw T.b_law_draw .nil pass0 (pa_cons (pv 0) (pa_cons (pe_callB call_len (by rfl) T.n_len (by decide +kernel) (pa_cons (pv 4) pa_nil)) pa_nil))) (fun _ _ => rfl)) (pa_cons (pe_call (ok_law_amount T) (hr.mono (by decide)) (by rfl) T.g_law_amount T.k_law_amount T.b_law_amount .nil pass0 (pa_cons (pv 0) (pa_cons (pv 3) pa_nil))) pa_nil))) rfl)))
  (pss_cons (ps_dput hr.u1 (pv 6) (pv 7) (pe_tup (pa_cons (pv 7) (pa_cons pe_int pa_nil))) rfl)
  (pss_one (ps_if (pt_cmpR op_gt (pe_call (ok_law_draw T) (hr.mono (by decide)) (by rfl) T.g_law_draw T.k_law_draw T.b_law_draw .nil pass0 (pa_cons (pv 0) (pa_cons pe_int pa_nil))) pe_int (nomark _)) (pss_one (ps_dput hr.u1 (pv 6) (pv 7) (pe_tup (pa_cons (pe_ix ix_list (pv 4) (pe_call (ok_law_draw T) (hr.mono (by decide)) (by rfl) T.g_law_draw T.k_law_draw T.b_law_draw .nil pass0 (pa_cons (pv 0) (pa_cons (pe_callB call_len (by rfl) T.n_len (by decide +kernel) (pa_cons (pv 4) pa_nil)) pa_nil))) (fun _ _ => rfl)) (pa_cons (pe_call (ok_law_amount T) (hr.mono (by decide)) (by rfl) T.g_law_amount T.k_law_amount T.b_law_amount .nil pass0 (pa_cons (pv 0) (pa_cons (pv 3) pa_nil))) pa_nil))) rfl)) pss_nil)))))
  (pss_cons (ps_setLc (i := 9) (own := [("_law_post", 7)]) (g := gName 7) (by rfl) sc.nd rfl rfl (sw_true rfl rfl rfl (by decide +kernel)) (pi_list (pv 4)) (blkOk_by (own := [("_law_post", 7)]) (by kernel_rfl)) (fun _ _ _ _ _ => pg_name (i := 7) sc.nd rfl (by first | exact Or.inl rfl | exact Or.inr rfl)) (fun _ _ _ _ _ => (pts_one (pt_cmpR op_eq (pe_call (ok_law_draw T) (hr.mono (by decide)) (by rfl) T.g_law_draw T.k_law_draw T.b_law_draw .nil pass0 (pa_cons (pv 0) (pa_cons pe_int pa_nil))) pe_int (nomark _)))) (fun _ _ _ _ _ => (pv 7)))
  (pss_one (ps_ret (pe_lst (pa_cons (pv 1) (pa_cons (pv 4) (pa_cons (pv 5) (pa_cons (pv 6) (pa_cons (pv 9) pa_nil))))))))))))
theorem sc_law_lineF : FnScope ["_law_model_here", "_law_abc", "_law_posts", "_law_steps", "_law_ends", "_law_oks", "_law_lines", "_law_post", "_law_mark", "_law_closings"] ["_law_model_here"] (defScope st_law_lineF) := ⟨rfl, rfl, rfl, by decide +kernel, rfl, by decide +kernel, by decide +kernel⟩
theorem ok_law_lineF (T : Tx K mg) : FnOk P w K mg base CX0 1 (He.ga K "_law_line") (fdOf K (He.ga K "_law_line")) ["_law_model_here"] (sp_law_lineF K) := by
  have sc := sc_law_lineF
  refine T.f_law_lineF.ok sc (fun vs H Q E h => ?_) (fun cdv A outer s H vs Q E hr h => ⟨t_law_lineF K, PSs.nox ?_, pure_law_lineF h⟩)
  · obtain ⟨_, rfl, _⟩ := h
    rfl
  · exact (pss_cons (ps_asg (pv 0) (pg_lst rfl (pgs_cons (pg_name (i := 1) sc.nd rfl (by first | exact Or.inl rfl | exact Or.inr rfl)) (pgs_cons (pg_name (i := 2) sc.nd rfl (by first | exact Or.inl rfl | exact Or.inr rfl)) (pgs_cons (pg_name (i := 3) sc.nd rfl (by first | exact Or.inl rfl | exact Or.inr rfl)) (pgs_cons (pg_name (i := 4) sc.nd rfl (by first | exact Or.inl rfl | exact Or.inr rfl)) (pgs_cons (pg_name (i := 5) sc.nd rfl (by first | exact Or.inl rfl | exact Or.inr rfl)) pgs_nil)))))))
  (pss_cons (ps_set (i := 1) sc.nd rfl (by first | exact Or.inl rfl | exact Or.inr rfl) (pe_join pe_str (pe_callB (cr_srt rfl) (by rfl) T.n_sorted (by decide +kernel) (pa_cons (pv 1) pa_nil))))
  (pss_cons (ps_set (i := 6) sc.nd rfl (by first | exact Or.inl rfl | exact Or.inr rfl) (pe_lst pa_nil))
  (pss_cons (ps_for PassesOwn.never rfl (pi_list (pv 2)) (pg_name (i := 7) sc.nd rfl (by first | exact Or.inl rfl | exact Or.inr rfl)) (pss_one (ps_set (i := 6) sc.nd rfl (by first | exact Or.inl rfl | exact Or.inr rfl) (pe_op op_cat (pv 6) (pe_lc (own := [("_law_mark", 8)]) (g := gName 8) (by rfl) sc.nd (pi_str (pv 1)) (blkOk_by (own := [("_law_mark", 8)]) (by kernel_rfl)) (fun _ _ _ _ _ => pg_name (i := 8) sc.nd rfl (by first | exact Or.inl rfl | exact Or.inr rfl)) (fun _ _ _ _ _ => pts_nil) (fun _ _ _ _ _ => (pe_op op_catA (pe_tup (pa_cons (pv 7) (pa_cons (pv 8) pa_nil))) (pe_dget hr.u1 (pv 3) (pe_tup (pa_cons (pv 7) (pa_cons (pv 8) pa_nil))) (fun _ _ => rfl)))))))))
  (pss_cons (ps_setLc (i := 9) (own := [("_law_post", 7)]) (g := gName 7) (by rfl) sc.nd rfl rfl (sw_true rfl rfl rfl (by decide +kernel)) (pi_list (pv 2)) (blkOk_by (own := [("_law_post", 7)]) (by kernel_rfl)) (fun _ _ _ _ _ => pg_name (i := 7) sc.nd rfl (by first | exact Or.inl rfl | exact Or.inr rfl)) (fun _ _ _ _ _ => pts_nil) (fun _ _ _ _ _ => (pe_op op_catA (pe_tup (pa_cons (pv 7) pa_nil)) (pe_dget hr.u1 (pv 4) (pv 7) (fun _ _ => rfl)))))
  (pss_one (ps_ret (pe_tup (pa_cons (pv 1) (pa_cons (pe_callTy call_tuple_of (by rfl) T.n_tuple (by decide +kernel) (pa_cons (pv 2) pa_nil)) (pa_cons (pe_callTy call_tuple_of (by rfl) T.n_tuple (by decide +kernel) (pa_cons (pv 6) pa_nil)) (pa_cons (pe_callTy call_tuple_of (by rfl) T.n_tuple (by decide +kernel) (pa_cons (pv 9) pa_nil)) (pa_cons (pe_callTy call_tuple_of (by rfl) T.n_tuple (by decide +kernel) (pa_cons (pe_lc (own := [("_law_post", 7)]) (g := gName 7) (by rfl) sc.nd (pi_list (pv 2)) (blkOk_by (own := [("_law_post", 7)]) (by kernel_rfl)) (fun _ _ _ _ _ => pg_name (i := 7) sc.nd rfl (by first | exact Or.inl rfl | exact Or.inr rfl)) (fun _ _ _ _ _ => (pts_one (pt_cmpR op_in_seq (pv 7) (pv 5) (by rfl)))) (fun _ _ _ _ _ => (pv 7))) pa_nil)) pa_nil)))))))))))))
theorem sc_law_is_name : FnScope ["_law_thing", "_law_some", "_law_mark"] ["_law_thing"] (defScope st_law_is_name) := ⟨rfl, rfl, rfl, by decide +kernel, rfl, by decide +kernel, by decide +kernel⟩
theorem ok_law_is_name (T : Tx K mg) : FnOk P w K mg base CX0 1 (He.ga K "_law_is_name") (fdOf K (He.ga K "_law_is_name")) ["_law_thing"] (sp_law_is_name K) := by
  have sc := sc_law_is_name
  refine T.f_law_is_name.ok sc (fun vs H Q E h => ?_) (fun cdv A outer s H vs Q E hr h => ⟨t_law_is_name K, PSs.nox ?_, pure_law_is_name h⟩)
  · obtain ⟨_, rfl, _⟩ := h
    rfl
  · exact (pss_cons (ps_if (PW.pt (pw_or (pt_not (pt_val (pe_callB call_isi (by rfl) T.n_isinstance (by decide +kernel) (pa_cons (pv 0) (pa_cons (pe_bltn (by rfl) T.n_str (by decide +kernel) rfl) pa_nil))))) (pw_or1 (pt_not (pt_chain op_le op_le pe_int (pe_callB call_len (by rfl) T.n_len (by decide +kernel) (pa_cons (pv 0) pa_nil)) pe_int))))) (pss_one (ps_ret pe_bl)) pss_nil)
  (pss_cons (ps_set (i := 1) sc.nd rfl (by first | exact Or.inl rfl | exact Or.inr rfl) pe_str)
  (pss_one (ps_ret (pe_and (pe_cmpR op_in_sign (pe_ix ix_str (pv 0) pe_int (fun _ _ => rfl)) (pv 1) (by rfl)) (pe_one (pe_cmpR (op_eqD hr.units) (pe_lc (own := [("_law_mark", 2)]) (g := gName 2) (by rfl) sc.nd (pi_str (pv 0)) (blkOk_by (own := [("_law_mark", 2)]) (by kernel_rfl)) (fun _ _ _ _ _ => pg_name (i := 2) sc.nd rfl (by first | exact Or.inl rfl | exact Or.inr rfl)) (fun _ _ _ _ _ => (pts_one (pt_cmpR op_notIn_sign (pv 2) (pe_op op_addS (pv 1) pe_str) (by rfl)))) (fun _ _ _ _ _ => (pv 2))) (pe_lst pa_nil) (nomark _))))))))
theorem sc_law_is_step27 : FnScope ["_law_line_here", "_law_abc", "_law_posts"] ["_law_line_here", "_law_abc", "_law_posts"] (defScope st_law_is_step27) := ⟨rfl, rfl, rfl, by decide +kernel, rfl, by decide +kernel, by decide +kernel⟩
theorem ok_law_is_step27 (T : Tx K mg) : FnOk P w K mg base CX0 2 (He.ga K "_law_is_step") (fdOf K (He.ga K "_law_is_step")) ["_law_line_here", "_law_abc", "_law_posts"] (sp_law_is_step27 K) := by
  have sc := sc_law_is_step27
  refine T.f_law_is_step27.ok sc (fun vs H Q E h => ?_) (fun cdv A outer s H vs Q E hr h => ⟨t_law_is_step27 K, PSs.nox ?_, pure_law_is_step27 h⟩)
  · obtain ⟨_, _, _, rfl, _⟩ := h
    rfl
  · exact (pss_cons (ps_if (PW.pt (pw_or (pt_not (pt_val (pe_callB call_isi (by rfl) T.n_isinstance (by decide +kernel) (pa_cons (pv 0) (pa_cons (pe_bltn (by rfl) T.n_tuple (by decide +kernel) rfl) pa_nil))))) (pw_or (pt_cmpR op_ne (pe_callB call_len (by rfl) T.n_len (by decide +kernel) (pa_cons (pv 0) pa_nil)) pe_int (nomark _)) (pw_or (pt_not (pt_val (pe_callB call_isi (by rfl) T.n_isinstance (by decide +kernel) (pa_cons (pe_ix ix_tup (pv 0) pe_int (fun _ _ => rfl)) (pa_cons (pe_bltn (by rfl) T.n_str (by decide +kernel) rfl) pa_nil))))) (pw_or1 (pt_cmpR op_ne (pe_callB call_len (by rfl) T.n_len (by decide +kernel) (pa_cons (pe_ix ix_tup (pv 0) pe_int (fun _ _ => rfl)) pa_nil)) pe_int (nomark _))))))) (pss_one (ps_ret pe_bl)) pss_nil)
  (pss_one (ps_ret (pe_and (pe_cmpR (op_inK hr.u65) (pe_ix ix_tup (pv 0) pe_int (fun _ _ => rfl)) (pv 2) (by rfl)) (pe_and (pe_cmpR op_in_sign (pe_ix ix_tup (pv 0) pe_int (fun _ _ => rfl)) (pv 1) (by rfl)) (pe_and (pe_cmpR (op_inK hr.u65) (pe_ix ix_tup (pv 0) pe_int (fun _ _ => rfl)) (pv 2) (by rfl)) (pe_one (pe_call (ok_law_wholeK T) (hr.mono (by decide)) (by rfl) T.g_law_wholeK T.k_law_wholeK T.b_law_wholeK .nil pass0 (pa_cons (pe_ix ix_tup (pv 0) pe_int (fun _ _ => rfl)) pa_nil)))))))))
theorem sc_law_is_end27 : FnScope ["_law_line_here", "_law_posts"] ["_law_line_here", "_law_posts"] (defScope st_law_is_end27) := ⟨rfl, rfl, rfl, by decide +kernel, rfl, by decide +kernel, by decide +kernel⟩
theorem ok_law_is_end27 (T : Tx K mg) : FnOk P w K mg base CX0 2 (He.ga K "_law_is_end") (fdOf K (He.ga K "_law_is_end")) ["_law_line_here", "_law_posts"] (sp_law_is_end27 K) := by
  have sc := sc_law_is_end27
  refine T.f_law_is_end27.ok sc (fun vs H Q E h => ?_) (fun cdv A outer s H vs Q E hr h => ⟨t_law_is_end27 K, PSs.nox ?_, pure_law_is_end27 h⟩)
  · obtain ⟨_, _, rfl, _⟩ := h
    rfl
  · exact (pss_cons (ps_if (PW.pt (pw_or (pt_not (pt_val (pe_callB call_isi (by rfl) T.n_isinstance (by decide +kernel) (pa_cons (pv 0) (pa_cons (pe_bltn (by rfl) T.n_tuple (by decide +kernel) rfl) pa_nil))))) (pw_or1 (pt_cmpR op_ne (pe_callB call_len (by rfl) T.n_len (by decide +kernel) (pa_cons (pv 0) pa_nil)) pe_int (nomark _))))) (pss_one (ps_ret pe_bl)) pss_nil)
  (pss_one (ps_ret (pe_and (pe_cmpR (op_inK hr.u65) (pe_ix ix_tup (pv 0) pe_int (fun _ _ => rfl)) (pv 1) (by rfl)) (pe_and (pe_cmpR (op_inK hr.u65) (pe_ix ix_tup (pv 0) pe_int (fun _ _ => rfl)) (pv 1) (by rfl)) (pe_one (pe_call (ok_law_wholeK T) (hr.mono (by decide)) (by rfl) T.g_law_wholeK T.k_law_wholeK T.b_law_wholeK .nil pass0 (pa_cons (pe_ix ix_tup (pv 0) pe_int (fun _ _ => rfl)) pa_nil))))))))
theorem sc_law_bad_signs : FnScope ["_law_abc"] ["_law_abc"] (defScope st_law_bad_signs) := ⟨rfl, rfl, rfl, by decide +kernel, rfl, by decide +kernel, by decide +kernel⟩
theorem ok_law_bad_signs (T : Tx K mg) : FnOk P w K mg base CX0 2 (He.ga K "_law_bad_signs") (fdOf K (He.ga K "_law_bad_signs")) ["_law_abc"] (sp_law_bad_signs K) := by
  have sc := sc_law_bad_signs
  refine T.f_law_bad_signs.ok sc (fun vs H Q E h => ?_) (fun cdv A outer s H vs Q E hr h => ⟨t_law_bad_signs K, PSs.nox ?_, pure_law_bad_signs h⟩)
  · obtain ⟨_, rfl, _⟩ := h
    rfl
  · exact (pss_cons (ps_if (PW.pt (pw_or (pt_not (pt_val (pe_call (ok_law_is_word T) (hr.mono (by decide)) (by rfl) T.g_law_is_word T.k_law_is_word T.b_law_is_word .nil pass0 (pa_cons (pv 0) (pa_cons pe_str pa_nil))))) (pw_or1 (pt_cmpR op_gt (pe_callB call_len (by rfl) T.n_len (by decide +kernel) (pa_cons (pv 0) pa_nil)) pe_int (nomark _))))) (pss_one (ps_ret pe_bl)) pss_nil)
  (pss_one (ps_ret (pe_cmpR op_lt (pe_lenSetS rfl (by rfl) T.n_len (by rfl) T.n_set (pv 0)) (pe_callB call_len (by rfl) T.n_len (by decide +kernel) (pa_cons (pv 0) pa_nil)) (nomark _)))))
theorem sc_law_states_due : FnScope ["_law_posts", "_law_at"] ["_law_posts"] (defScope st_law_states_due) := ⟨rfl, rfl, rfl, by decide +kernel, rfl, by decide +kernel, by decide +kernel⟩
theorem ok_law_states_due (T : Tx K mg) : FnOk P w K mg base CX0 2 (He.ga K "_law_states_due") (fdOf K (He.ga K "_law_states_due")) ["_law_posts"] (sp_law_states_due K) := by
  have sc := sc_law_states_due
  refine T.f_law_states_due.ok sc (fun vs H Q E h => ?_) (fun cdv A outer s H vs Q E hr h => ⟨t_law_states_due K, PSs.nox ?_, pure_law_states_due h⟩)
  · obtain ⟨_, rfl, _⟩ := h
    rfl
  · exact (pss_cons (ps_if (PW.pt (pw_or (pt_not (pt_val (pe_callB call_isi (by rfl) T.n_isinstance (by decide +kernel) (pa_cons (pv 0) (pa_cons (pe_bltn (by rfl) T.n_tuple (by decide +kernel) rfl) pa_nil))))) (pw_or1 (pt_cmpR op_eq (pe_callB call_len (by rfl) T.n_len (by decide +kernel) (pa_cons (pv 0) pa_nil)) pe_int (nomark _))))) (pss_one (ps_ret (pe_lst (pa_cons pe_non pa_nil)))) pss_nil)
  (pss_cons (ps_for PassesOwn.never rfl (pi_range1 (by rfl) T.n_range (pa_cons (pe_callB call_len (by rfl) T.n_len (by decide +kernel) (pa_cons (pv 0) pa_nil)) pa_nil)) (pg_name (i := 1) sc.nd rfl (by first | exact Or.inl rfl | exact Or.inr rfl)) (pss_one (ps_if (PW.pt (pw_or (pt_cmpR op_eq (pv 1) pe_int (nomark _)) (pw_or (pt_not (pt_val (pe_call (ok_law_is_name T) (hr.mono (by decide)) (by rfl) T.g_law_is_name T.k_law_is_name T.b_law_is_name .nil pass0 (pa_cons (pe_ix ix_tup (pv 0) (pv 1) (fun _ _ => rfl)) pa_nil)))) (pw_or1 (pt_cmpR (op_inK hr.u65) (pe_ix ix_tup (pv 0) (pv 1) (fun _ _ => rfl)) (pe_slice sl_tupA (pv 0) po_none (po_some (pv 1))) (by rfl)))))) (pss_one (ps_ret (pe_lst (pa_cons (pv 1) pa_nil)))) pss_nil)))
  (pss_one (ps_ret (pe_lst pa_nil)))))
theorem sc_law_rows_due : FnScope ["_law_abc", "_law_posts", "_law_lines", "_law_seen", "_law_at"] ["_law_abc", "_law_posts", "_law_lines"] (defScope st_law_rows_due) := ⟨rfl, rfl, rfl, by decide +kernel, rfl, by decide +kernel, by decide +kernel⟩
theorem ok_law_rows_due (T : Tx K mg) : FnOk P w K mg base CX0 3 (He.ga K "_law_rows_due") (fdOf K (He.ga K "_law_rows_due")) ["_law_abc", "_law_posts", "_law_lines"] (sp_law_rows_due K) := by
  have sc := sc_law_rows_due
  refine T.f_law_rows_due.ok sc (fun vs H Q E h => ?_) (fun cdv A outer s H vs Q E hr h => ⟨t_law_rows_due K, PSs.nox ?_, pure_law_rows_due h⟩)
  · obtain ⟨_, _, _, rfl, _⟩ := h
    rfl
  · exact (pss_cons (ps_set (i := 3) sc.nd rfl (by first | exact Or.inl rfl | exact Or.inr rfl) (pe_lst pa_nil))
  (pss_cons (ps_if (pt_not (pt_val (pe_callB call_isi (by rfl) T.n_isinstance (by decide +kernel) (pa_cons (pv 2) (pa_cons (pe_bltn (by rfl) T.n_tuple (by decide +kernel) rfl) pa_nil))))) (pss_one (ps_ret (pe_lst (pa_cons pe_non pa_nil)))) pss_nil)
  (pss_cons (ps_for PassesOwn.never rfl (pi_range1 (by rfl) T.n_range (pa_cons (pe_callB call_len (by rfl) T.n_len (by decide +kernel) (pa_cons (pv 2) pa_nil)) pa_nil)) (pg_name (i := 4) sc.nd rfl (by first | exact Or.inl rfl | exact Or.inr rfl)) (pss_cons (ps_if (PW.pt (pw_or (pt_not (pt_val (pe_call (ok_law_is_step27 T) (hr.mono (by decide)) (by rfl) T.g_law_is_step27 T.k_law_is_step27 T.b_law_is_step27 .nil pass0 (pa_cons (pe_ix ix_tup (pv 2) (pv 4) (fun _ _ => rfl)) (pa_cons (pv 0) (pa_cons (pv 1) pa_nil)))))) (pw_or1 (pt_cmpR (op_inD hr.u65) (pe_slice sl_tupA (pe_ix ix_tup (pv 2) (pv 4) (fun _ _ => rfl)) po_none (po_some pe_int)) (pv 3) (by rfl))))) (pss_one (ps_ret (pe_lst (pa_cons (pv 4) pa_nil)))) pss_nil)
  (pss_one (ps_expr (pe_bm PySem.F.plainAttrs_list PySem.F.slot_list_append PySem.F.type_list_append mt_append (pv 3) (pa_cons (pe_slice sl_tupA (pe_ix ix_tup (pv 2) (pv 4) (fun _ _ => rfl)) po_none (po_some pe_int)) pa_nil))))))
  (pss_one (ps_ret (pe_ifExp (pt_cmpR op_lt (pe_callB call_len (by rfl) T.n_len (by decide +kernel) (pa_cons (pv 3) pa_nil)) (pe_op op_mul (pe_callB call_len (by rfl) T.n_len (by decide +kernel) (pa_cons (pv 0) pa_nil)) (pe_callB call_len (by rfl) T.n_len (by decide +kernel) (pa_cons (pv 1) pa_nil))) (nomark _)) (pe_lst (pa_cons pe_non pa_nil)) (pe_lst pa_nil)))))))
theorem sc_law_ends_due : FnScope ["_law_posts", "_law_ends", "_law_at", "_law_line_here"] ["_law_posts", "_law_ends"] (defScope st_law_ends_due) := ⟨rfl, rfl, rfl, by decide +kernel, rfl, by decide +kernel, by decide +kernel⟩
theorem ok_law_ends_due (T : Tx K mg) : FnOk P w K mg base CX0 3 (He.ga K "_law_ends_due") (fdOf K (He.ga K "_law_ends_due")) ["_law_posts", "_law_ends"] (sp_law_ends_due K) := by
  have sc := sc_law_ends_due
  refine T.f_law_ends_due.ok sc (fun vs H Q E h => ?_) (fun cdv A outer s H vs Q E hr h => ⟨t_law_ends_due K, PSs.nox ?_, pure_law_ends_due h⟩)
  · obtain ⟨_, _, rfl, _⟩ := h
    rfl
  · exact (pss_cons (ps_if (pt_not (pt_val (pe_callB call_isi (by rfl) T.n_isinstance (by decide +kernel) (pa_cons (pv 1) (pa_cons (pe_bltn (by rfl) T.n_tuple (by decide +kernel) rfl) pa_nil))))) (pss_one (ps_ret (pe_lst (pa_cons pe_non pa_nil)))) pss_nil)
  (pss_cons (ps_for PassesOwn.never rfl (pi_range1 (by rfl) T.n_range (pa_cons (pe_callB call_len (by rfl) T.n_len (by decide +kernel) (pa_cons (pv 1) pa_nil)) pa_nil)) (pg_name (i := 2) sc.nd rfl (by first | exact Or.inl rfl | exact Or.inr rfl)) (pss_one (ps_if (PW.pt (pw_or (pt_not (pt_val (pe_call (ok_law_is_end27 T) (hr.mono (by decide)) (by rfl) T.g_law_is_end27 T.k_law_is_end27 T.b_law_is_end27 .nil pass0 (pa_cons (pe_ix ix_tup (pv 1) (pv 2) (fun _ _ => rfl)) (pa_cons (pv 0) pa_nil))))) (pw_or1 (pt_cmpR (op_inK hr.u65) (pe_ix ix_tup (pe_ix ix_tup (pv 1) (pv 2) (fun _ _ => rfl)) pe_int (fun _ _ => rfl)) (pe_lc (own := [("_law_line_here", 3)]) (g := gName 3) (by rfl) sc.nd (pi_tup (pe_slice sl_tupA (pv 1) po_none (po_some (pv 2)))) (blkOk_by (own := [("_law_line_here", 3)]) (by kernel_rfl)) (fun _ _ _ _ _ => pg_name (i := 3) sc.nd rfl (by first | exact Or.inl rfl | exact Or.inr rfl)) (fun _ _ _ _ _ => pts_nil) (fun _ _ _ _ _ => (pe_ix ix_tup (pv 3) pe_int (fun _ _ => rfl)))) (by rfl))))) (pss_one (ps_ret (pe_lst (pa_cons (pv 2) pa_nil)))) pss_nil)))
  (pss_one (ps_ret (pe_lst pa_nil)))))
theorem sc_law_yes_due : FnScope ["_law_posts", "_law_oks", "_law_at"] ["_law_posts", "_law_oks"] (defScope st_law_yes_due) := ⟨rfl, rfl, rfl, by decide +kernel, rfl, by decide +kernel, by decide +kernel⟩
theorem ok_law_yes_due (T : Tx K mg) : FnOk P w K mg base CX0 1 (He.ga K "_law_yes_due") (fdOf K (He.ga K "_law_yes_due")) ["_law_posts", "_law_oks"] (sp_law_yes_due K) := by
  have sc := sc_law_yes_due
  refine T.f_law_yes_due.ok sc (fun vs H Q E h => ?_) (fun cdv A outer s H vs Q E hr h => ⟨t_law_yes_due K, PSs.nox ?_, pure_law_yes_due h⟩)
  · obtain ⟨_, _, rfl, _⟩ := h
    rfl
  · exact (pss_cons (ps_if (pt_not (pt_val (pe_callB call_isi (by rfl) T.n_isinstance (by decide +kernel) (pa_cons (pv 1) (pa_cons (pe_bltn (by rfl) T.n_tuple (by decide +kernel) rfl) pa_nil))))) (pss_one (ps_ret (pe_lst (pa_cons pe_non pa_nil)))) pss_nil)
  (pss_cons (ps_for PassesOwn.never rfl (pi_range1 (by rfl) T.n_range (pa_cons (pe_callB call_len (by rfl) T.n_len (by decide +kernel) (pa_cons (pv 1) pa_nil)) pa_nil)) (pg_name (i := 2) sc.nd rfl (by first | exact Or.inl rfl | exact Or.inr rfl)) (pss_one (ps_if (PW.pt (pw_or (pt_cmpR (op_notInK hr.u65) (pe_ix ix_tup (pv 1) (pv 2) (fun _ _ => rfl)) (pv 0) (by rfl)) (pw_or1 (pt_cmpR (op_inK hr.u65) (pe_ix ix_tup (pv 1) (pv 2) (fun _ _ => rfl)) (pe_slice sl_tupA (pv 1) po_none (po_some (pv 2))) (by rfl))))) (pss_one (ps_ret (pe_lst (pa_cons (pv 2) pa_nil)))) pss_nil)))
  (pss_one (ps_ret (pe_lst pa_nil)))))
theorem sc_law_loop_due : FnScope ["_law_parts_here", "_law_abc", "_law_posts", "_law_lines", "_law_ends", "_law_oks"] ["_law_parts_here"] (defScope st_law_loop_due) := ⟨rfl, rfl, rfl, by decide +kernel, rfl, by decide +kernel, by decide +kernel⟩
theorem ok_law_loop_due (T : Tx K mg) : FnOk P w K mg base CX0 8 (He.ga K "_law_loop_due") (fdOf K (He.ga K "_law_loop_due")) ["_law_parts_here"] (sp_law_loop_due K) := by
  have sc := sc_law_loop_due
  refine T.f_law_loop_due.ok sc (fun vs H Q E h => ?_) (fun cdv A outer s H vs Q E hr h => ⟨t_law_loop_due K, PSs.nox ?_, pure_law_loop_due h⟩)
  · obtain ⟨_, rfl, _⟩ := h
    rfl
  · exact (pss_cons (ps_asg (pv 0) (pg_lst rfl (pgs_cons (pg_name (i := 1) sc.nd rfl (by first | exact Or.inl rfl | exact Or.inr rfl)) (pgs_cons (pg_name (i := 2) sc.nd rfl (by first | exact Or.inl rfl | exact Or.inr rfl)) (pgs_cons (pg_name (i := 3) sc.nd rfl (by first | exact Or.inl rfl | exact Or.inr rfl)) (pgs_cons (pg_name (i := 4) sc.nd rfl (by first | exact Or.inl rfl | exact Or.inr rfl)) (pgs_cons (pg_name (i := 5) sc.nd rfl (by first | exact Or.inl rfl | exact Or.inr rfl)) pgs_nil)))))))
  (pss_cons (ps_if (pt_val (pe_call (ok_law_bad_signs T) (hr.mono (by decide)) (by rfl) T.g_law_bad_signs T.k_law_bad_signs T.b_law_bad_signs .nil pass0 (pa_cons (pv 1) pa_nil))) (pss_one (ps_ret (pe_lst (pa_cons pe_str (pa_cons (pe_call (ok_law_faceX T 6) (hr.mono (by decide)) (by rfl) T.g_law_faceX T.k_law_faceX T.b_law_faceX .nil pass0 (pa_cons (pv 1) pa_nil)) pa_nil))))) pss_nil)
  (pss_cons (ps_if (pt_cmpR (op_neD hr.units) (pe_call (ok_law_states_due T) (hr.mono (by decide)) (by rfl) T.g_law_states_due T.k_law_states_due T.b_law_states_due .nil pass0 (pa_cons (pv 2) pa_nil)) (pe_lst pa_nil) (nomark _)) (pss_one (ps_ret (pe_lst (pa_cons pe_str (pa_cons (pe_call (ok_law_faceX T 6) (hr.mono (by decide)) (by rfl) T.g_law_faceX T.k_law_faceX T.b_law_faceX .nil pass0 (pa_cons (pe_ix ix_list (pe_call (ok_law_states_due T) (hr.mono (by decide)) (by rfl) T.g_law_states_due T.k_law_states_due T.b_law_states_due .nil pass0 (pa_cons (pv 2) pa_nil)) pe_int (fun _ _ => rfl)) pa_nil)) pa_nil))))) pss_nil)
  (pss_cons (ps_if (pt_cmpR (op_neD hr.units) (pe_call (ok_law_rows_due T) (hr.mono (by decide)) (by rfl) T.g_law_rows_due T.k_law_rows_due T.b_law_rows_due .nil pass0 (pa_cons (pv 1) (pa_cons (pv 2) (pa_cons (pv 3) pa_nil)))) (pe_lst pa_nil) (nomark _)) (pss_one (ps_ret (pe_lst (pa_cons pe_str (pa_cons (pe_call (ok_law_faceX T 6) (hr.mono (by decide)) (by rfl) T.g_law_faceX T.k_law_faceX T.b_law_faceX .nil pass0 (pa_cons (pe_ix ix_list (pe_call (ok_law_rows_due T) (hr.mono (by decide)) (by rfl) T.g_law_rows_due T.k_law_rows_due T.b_law_rows_due .nil pass0 (pa_cons (pv 1) (pa_cons (pv 2) (pa_cons (pv 3) pa_nil)))) pe_int (fun _ _ => rfl)) pa_nil)) pa_nil))))) pss_nil)
  (pss_cons (ps_if (pt_cmpR (op_neD hr.units) (pe_call (ok_law_ends_due T) (hr.mono (by decide)) (by rfl) T.g_law_ends_due T.k_law_ends_due T.b_law_ends_due .nil pass0 (pa_cons (pv 2) (pa_cons (pv 4) pa_nil))) (pe_lst pa_nil) (nomark _)) (pss_one (ps_ret (pe_lst (pa_cons pe_str (pa_cons (pe_call (ok_law_faceX T 6) (hr.mono (by decide)) (by rfl) T.g_law_faceX T.k_law_faceX T.b_law_faceX .nil pass0 (pa_cons (pe_ix ix_list (pe_call (ok_law_ends_due T) (hr.mono (by decide)) (by rfl) T.g_law_ends_due T.k_law_ends_due T.b_law_ends_due .nil pass0 (pa_cons (pv 2) (pa_cons (pv 4) pa_nil))) pe_int (fun _ _ => rfl)) pa_nil)) pa_nil))))) pss_nil)
  (pss_cons (ps_if (pt_cmpR (op_neD hr.units) (pe_call (ok_law_yes_due T) (hr.mono (by decide)) (by rfl) T.g_law_yes_due T.k_law_yes_due T.b_law_yes_due .nil pass0 (pa_cons (pv 2) (pa_cons (pv 5) pa_nil))) (pe_lst pa_nil) (nomark _)) (pss_one (ps_ret (pe_lst (pa_cons pe_str (pa_cons (pe_call (ok_law_faceX T 6) (hr.mono (by decide)) (by rfl) T.g_law_faceX T.k_law_faceX T.b_law_faceX .nil pass0 (pa_cons (pe_ix ix_list (pe_call (ok_law_yes_due T) (hr.mono (by decide)) (by rfl) T.g_law_yes_due T.k_law_yes_due T.b_law_yes_due .nil pass0 (pa_cons (pv 2) (pa_cons (pv 5) pa_nil))) pe_int (fun _ _ => rfl)) pa_nil)) pa_nil))))) pss_nil)
  (pss_one (ps_ret (pe_lst (pa_cons pe_str (pa_cons (pe_call (ok_law_faceX T 6) (hr.mono (by decide)) (by rfl) T.g_law_faceX T.k_law_faceX T.b_law_faceX .nil pass0 (pa_cons pe_non pa_nil)) pa_nil)))))))))))
theorem sc_law_parts : FnScope ["_law_pool_here", "_law_model_here", "_law_line_here", "_law_ends", "_law_part", "_law_abc", "_law_lines"] ["_law_pool_here", "_law_model_here"] (defScope st_law_parts) := ⟨rfl, rfl, rfl, by decide +kernel, rfl, by decide +kernel, by decide +kernel⟩
theorem ok_law_parts (T : Tx K mg) : FnOk P w K mg base CX0 3 (He.ga K "_law_parts") (fdOf K (He.ga K "_law_parts")) ["_law_pool_here", "_law_model_here"] (sp_law_parts K) := by
  have sc := sc_law_parts
  refine T.f_law_parts.ok sc (fun vs H Q E h => ?_) (fun cdv A outer s H vs Q E hr h => ⟨t_law_parts K, PSs.nox ?_, pure_law_parts h⟩)
  · obtain ⟨_, _, rfl, _⟩ := h
    rfl
  · exact (pss_cons (ps_set (i := 2) sc.nd rfl (by first | exact Or.inl rfl | exact Or.inr rfl) (pe_call (ok_law_lineF T) (hr.mono (by decide)) (by rfl) T.g_law_lineF T.k_law_lineF T.b_law_lineF .nil pass0 (pa_cons (pv 1) pa_nil)))
  (pss_cons (ps_setLc (i := 3) (own := [("_law_part", 4)]) (g := gName 4) (by rfl) sc.nd rfl rfl (sw_true rfl rfl rfl (by decide +kernel)) (pi_tup (pe_ix ix_tup (pv 2) pe_int (fun _ _ => rfl))) (blkOk_by (own := [("_law_part", 4)]) (by kernel_rfl)) (fun _ _ _ _ _ => pg_name (i := 4) sc.nd rfl (by first | exact Or.inl rfl | exact Or.inr rfl)) (fun _ _ _ _ _ => (pts_one (PW.pt (pw_or (pt_cmpR (op_neD hr.units) (pe_slice sl_tupA (pv 4) (po_some pe_int) po_none) (pe_tup (pa_cons (pe_ix ix_tup (pv 4) pe_int (fun _ _ => rfl)) (pa_cons pe_int pa_nil))) (nomark _)) (pw_or1 (pt_cmpR op_eq (pe_call (ok_law_draw T) (hr.mono (by decide)) (by rfl) T.g_law_draw T.k_law_draw T.b_law_draw .nil pass0 (pa_cons (pv 0) (pa_cons pe_int pa_nil))) pe_int (nomark _))))))) (fun _ _ _ _ _ => (pv 4)))
  (pss_cons (ps_set (i := 5) sc.nd rfl (by first | exact Or.inl rfl | exact Or.inr rfl) (pe_join pe_str (pe_call (ok_law_shufU T) (hr.mono (by decide)) (by rfl) T.g_law_shufU T.k_law_shufU T.b_law_shufU .nil pass0 (pa_cons (pv 0) (pa_cons (pe_ix ix_tup (pv 2) pe_int (fun _ _ => rfl)) pa_nil)))))
  (pss_cons (ps_set (i := 6) sc.nd rfl (by first | exact Or.inl rfl | exact Or.inr rfl) (pe_callTy call_tuple_of (by rfl) T.n_tuple (by decide +kernel) (pa_cons (pe_call (ok_law_shufU T) (hr.mono (by decide)) (by rfl) T.g_law_shufU T.k_law_shufU T.b_law_shufU .nil pass0 (pa_cons (pv 0) (pa_cons (pe_ix ix_tup (pv 2) pe_int (fun _ _ => rfl)) pa_nil))) pa_nil)))
  (pss_one (ps_ret (pe_lst (pa_cons (pv 5) (pa_cons (pe_ix ix_tup (pv 2) pe_int (fun _ _ => rfl)) (pa_cons (pv 6) (pa_cons (pe_callTy call_tuple_of (by rfl) T.n_tuple (by decide +kernel) (pa_cons (pe_call (ok_law_shufU T) (hr.mono (by decide)) (by rfl) T.g_law_shufU T.k_law_shufU T.b_law_shufU .nil pass0 (pa_cons (pv 0) (pa_cons (pv 3) pa_nil))) pa_nil)) (pa_cons (pe_callTy call_tuple_of (by rfl) T.n_tuple (by decide +kernel) (pa_cons (pe_call (ok_law_shufU T) (hr.mono (by decide)) (by rfl) T.g_law_shufU T.k_law_shufU T.b_law_shufU .nil pass0 (pa_cons (pv 0) (pa_cons (pe_ix ix_tup (pv 2) pe_int (fun _ _ => rfl)) pa_nil))) pa_nil)) pa_nil))))))))))))
theorem sc_law_bent : FnScope ["_law_pool_here", "_law_some", "_law_odd_here", "_law_way", "_law_at"] ["_law_pool_here", "_law_some", "_law_odd_here"] (defScope st_law_bent) := ⟨rfl, rfl, rfl, by decide +kernel, rfl, by decide +kernel, by decide +kernel⟩
theorem ok_law_bent (T : Tx K mg) : FnOk P w K mg base CX0 2 (He.ga K "_law_bent") (fdOf K (He.ga K "_law_bent")) ["_law_pool_here", "_law_some", "_law_odd_here"] (sp_law_bent K) := by
  have sc := sc_law_bent
  refine T.f_law_bent.ok sc (fun vs H Q E h => ?_) (fun cdv A outer s H vs Q E hr h => ⟨t_law_bent K, PSs.nox ?_, pure_law_bent h⟩)
  · obtain ⟨_, _, _, rfl, _⟩ := h
    rfl
  · exact (pss_cons (ps_par (by rfl) sc.nd rfl rfl (by decide) rfl rfl (pa_cons (pe_call (ok_law_draw T) (hr.mono (by decide)) (by rfl) T.g_law_draw T.k_law_draw T.b_law_draw .nil pass0 (pa_cons (pv 0) (pa_cons pe_int pa_nil))) (pa_cons (pe_call (ok_law_draw T) (hr.mono (by decide)) (by rfl) T.g_law_draw T.k_law_draw T.b_law_draw .nil pass0 (pa_cons (pv 0) (pa_cons (pe_op op_add (pe_callB call_len (by rfl) T.n_len (by decide +kernel) (pa_cons (pv 1) pa_nil)) pe_int) pa_nil))) pa_nil)) (by rfl))
  (pss_cons (ps_if (pt_cmpR op_lt (pv 3) pe_int (nomark _)) (pss_one (ps_ret (pe_op op_catA (pe_op op_catA (pe_slice sl_tupA (pv 1) po_none (po_some (pv 4))) (pe_tup (pa_cons (pv 2) pa_nil))) (pe_slice sl_tupA (pv 1) (po_some (pe_op op_add (pv 4) (pv 3))) po_none)))) pss_nil)
  (pss_cons (ps_if (pt_cmpR op_eq (pv 3) pe_int (nomark _)) (pss_one (ps_ret (pe_op op_catA (pe_op op_catA (pe_slice sl_tupA (pv 1) po_none (po_some (pv 4))) (pe_slice sl_tupA (pv 1) po_none (po_some pe_int))) (pe_slice sl_tupA (pv 1) (po_some (pv 4)) po_none)))) pss_nil)
  (pss_cons (ps_if (pt_cmpR op_eq (pv 3) pe_int (nomark _)) (pss_one (ps_ret (pe_op op_catA (pe_slice sl_tupA (pv 1) po_none (po_some (pv 4))) (pe_slice sl_tupA (pv 1) (po_some (pe_op op_add (pv 4) pe_int)) po_none)))) pss_nil)
  (pss_one (ps_ret (pe_ifExp (pt_cmpR op_eq (pv 3) pe_int (nomark _)) (pe_op op_catA (pe_slice sl_tupA (pv 1) po_none (po_some (pv 4))) (pe_revA (pe_slice sl_tupA (pv 1) (po_some (pv 4)) po_none))) (pe_callTy call_list_of (by rfl) T.n_list (by decide +kernel) (pa_cons (pv 1) pa_nil)))))))))
theorem sc_law_spoilt_line : FnScope ["_law_pool_here", "_law_some", "_law_posts", "_law_line_here", "_law_at", "_law_mark", "_law_odd_here"] ["_law_pool_here", "_law_some", "_law_posts"] (defScope st_law_spoilt_line) := ⟨rfl, rfl, rfl, by decide +kernel, rfl, by decide +kernel, by decide +kernel⟩
theorem ok_law_spoilt_line (T : Tx K mg) : FnOk P w K mg base CX0 3 (He.ga K "_law_spoilt_line") (fdOf K (He.ga K "_law_spoilt_line")) ["_law_pool_here", "_law_some", "_law_posts"] (sp_law_spoilt_line K) := by
  have sc := sc_law_spoilt_line
  refine T.f_law_spoilt_line.ok sc (fun vs H Q E h => ?_) (fun cdv A outer s H vs Q E hr h => ⟨t_law_spoilt_line K, PSs.nox ?_, pure_law_spoilt_line h⟩)
  · obtain ⟨_, _, _, rfl, _⟩ := h
    rfl
  · exact (pss_cons (ps_if (PW.pt (pw_or (pt_cmpR (op_eqD hr.units) (pv 1) (pe_tup pa_nil) (nomark _)) (pw_or1 (pt_cmpR op_eq (pe_call (ok_law_draw T) (hr.mono (by decide)) (by rfl) T.g_law_draw T.k_law_draw T.b_law_draw .nil pass0 (pa_cons (pv 0) (pa_cons pe_int pa_nil))) pe_int (nomark _))))) (pss_one (ps_ret (pe_call (ok_law_oddM T) (hr.mono (by decide)) (by rfl) T.g_law_oddM T.k_law_oddM T.b_law_oddM .nil pass0 (pa_cons (pv 0) pa_nil)))) pss_nil)
  (pss_cons (ps_set (i := 3) sc.nd rfl (by first | exact Or.inl rfl | exact Or.inr rfl) (pe_ix ix_tup (pv 1) (pe_call (ok_law_draw T) (hr.mono (by decide)) (by rfl) T.g_law_draw T.k_law_draw T.b_law_draw .nil pass0 (pa_cons (pv 0) (pa_cons (pe_callB call_len (by rfl) T.n_len (by decide +kernel) (pa_cons (pv 1) pa_nil)) pa_nil))) (fun _ _ => rfl)))
  (pss_cons (ps_par (by rfl) sc.nd rfl rfl (by decide) rfl rfl (pa_cons (pe_call (ok_law_draw T) (hr.mono (by decide)) (by rfl) T.g_law_draw T.k_law_draw T.b_law_draw .nil pass0 (pa_cons (pv 0) (pa_cons (pe_callB call_len (by rfl) T.n_len (by decide +kernel) (pa_cons (pv 3) pa_nil)) pa_nil))) (pa_cons (pe_call (ok_law_draw T) (hr.mono (by decide)) (by rfl) T.g_law_draw T.k_law_draw T.b_law_draw .nil pass0 (pa_cons (pv 0) (pa_cons pe_int pa_nil))) pa_nil)) (by rfl))
  (pss_cons (ps_if (pt_cmpR op_lt (pv 5) pe_int (nomark _)) (pss_one (ps_ret (pe_ix ix_list (pe_lst (pa_cons (pe_slice sl_tupA (pv 3) po_none (po_some (pe_un un_neg pe_int))) (pa_cons (pe_op op_catA (pv 3) (pe_tup (pa_cons pe_int pa_nil))) pa_nil))) (pv 5) (fun _ _ => rfl)))) pss_nil)
  (pss_cons (ps_set (i := 6) sc.nd rfl (by first | exact Or.inl rfl | exact Or.inr rfl) (pe_ix ix_list (pe_lst (pa_cons pe_bl (pa_cons pe_non (pa_cons pe_str (pa_cons pe_str (pa_cons pe_int (pa_cons (pe_ix ix_tup (pv 2) (pe_un un_neg pe_int) (fun _ _ => rfl)) pa_nil))))))) (pe_op op_sub (pv 5) pe_int) (fun _ _ => rfl)))
  (pss_one (ps_ret (pe_op op_catA (pe_op op_catA (pe_slice sl_tupA (pv 3) po_none (po_some (pv 4))) (pe_tup (pa_cons (pv 6) pa_nil))) (pe_slice sl_tupA (pv 3) (po_some (pe_op op_add (pv 4) pe_int)) po_none)))))))))
theorem sc_law_spoilt : FnScope ["_law_pool_here", "_law_parts_here", "_law_which", "_law_found", "_law_posts", "_law_abc", "_law_words", "_law_at", "_law_mark", "_law_more", "_law_odd_here"] ["_law_pool_here", "_law_parts_here", "_law_which"] (defScope st_law_spoilt) := ⟨rfl, rfl, rfl, by decide +kernel, rfl, by decide +kernel, by decide +kernel⟩
theorem ok_law_spoilt (T : Tx K mg) : FnOk P w K mg base CX0 4 (He.ga K "_law_spoilt") (fdOf K (He.ga K "_law_spoilt")) ["_law_pool_here", "_law_parts_here", "_law_which"] (sp_law_spoilt K) := by
  have sc := sc_law_spoilt
  refine T.f_law_spoilt.ok sc (fun vs H Q E h => ?_) (fun cdv A outer s H vs Q E hr h => ⟨t_law_spoilt K, PSs.nox ?_, pure_law_spoilt h⟩)
  · obtain ⟨_, _, _, rfl, _⟩ := h
    rfl
  · exact (pss_cons (ps_set (i := 3) sc.nd rfl (by first | exact Or.inl rfl | exact Or.inr rfl) (pe_callTy call_list_of (by rfl) T.n_list (by decide +kernel) (pa_cons (pv 1) pa_nil)))
  (pss_cons (ps_set (i := 4) sc.nd rfl (by first | exact Or.inl rfl | exact Or.inr rfl) (pe_ix ix_list (pv 1) pe_int (fun _ _ => rfl)))
  (pss_cons (ps_if (pt_cmpR op_eq (pv 2) pe_int (nomark _)) (pss_cons (ps_set (i := 5) sc.nd rfl (by first | exact Or.inl rfl | exact Or.inr rfl) (pe_ix ix_list (pv 1) pe_int (fun _ _ => rfl)))
  (pss_cons (ps_par (by rfl) sc.nd rfl rfl (by decide) rfl rfl (pa_cons (pe_call (ok_law_draw T) (hr.mono (by decide)) (by rfl) T.g_law_draw T.k_law_draw T.b_law_draw .nil pass0 (pa_cons (pv 0) (pa_cons (pe_op op_add (pe_callB call_len (by rfl) T.n_len (by decide +kernel) (pa_cons (pv 5) pa_nil)) pe_int) pa_nil))) (pa_cons (pe_ix ix_str (pe_op op_addS (pv 5) pe_str) (pe_call (ok_law_draw T) (hr.mono (by decide)) (by rfl) T.g_law_draw T.k_law_draw T.b_law_draw .nil pass0 (pa_cons (pv 0) (pa_cons (pe_op op_add (pe_callB call_len (by rfl) T.n_len (by decide +kernel) (pa_cons (pv 5) pa_nil)) pe_int) pa_nil))) (fun _ _ => rfl)) pa_nil)) (by rfl))
  (pss_cons (ps_set (i := 6) sc.nd rfl (by first | exact Or.inl rfl | exact Or.inr rfl) (pe_lst (pa_cons (pe_op op_addS (pe_op op_addS (pe_slice sl_str (pv 5) po_none (po_some (pv 7))) (pv 8)) (pe_slice sl_str (pv 5) (po_some (pv 7)) po_none)) (pa_cons (pe_op op_addS (pe_slice sl_str (pv 5) po_none (po_some (pv 7))) (pe_slice sl_str (pv 5) (po_some (pe_op op_add (pv 7) pe_int)) po_none)) (pa_cons (pe_op op_addS (pe_slice sl_str (pv 5) (po_some pe_int) po_none) (pv 8)) (pa_cons (pe_callTy (call_tupS rfl) (by rfl) T.n_tuple (by decide +kernel) (pa_cons (pv 5) pa_nil)) (pa_cons (pe_call (ok_law_oddM T) (hr.mono (by decide)) (by rfl) T.g_law_oddM T.k_law_oddM T.b_law_oddM .nil pass0 (pa_cons (pv 0) pa_nil)) pa_nil)))))))
  (pss_one (ps_asg (pe_ix ix_list (pv 6) (pe_call (ok_law_draw T) (hr.mono (by decide)) (by rfl) T.g_law_draw T.k_law_draw T.b_law_draw .nil pass0 (pa_cons (pv 0) (pa_cons pe_int pa_nil))) (fun _ _ => rfl)) (pg_sub (pv 3) pe_int set_list)))))) pss_nil)
  (pss_cons (ps_if (pt_cmpR op_eq (pv 2) pe_int (nomark _)) (pss_cons (ps_set (i := 9) sc.nd rfl (by first | exact Or.inl rfl | exact Or.inr rfl) (pe_op op_catA (pv 4) (pe_callTy call_tuple_of (by rfl) T.n_tuple (by decide +kernel) (pa_cons (pe_call (ok_law_namesA T) (hr.mono (by decide)) (by rfl) T.g_law_names T.k_law_names T.b_law_names .nil pass0 (pa_cons (pv 0) (pa_cons pe_int pa_nil))) pa_nil))))
  (pss_cons (ps_set (i := 10) sc.nd rfl (by first | exact Or.inl rfl | exact Or.inr rfl) (pe_ix ix_list (pe_lst (pa_cons (pe_call (ok_law_oddM T) (hr.mono (by decide)) (by rfl) T.g_law_oddM T.k_law_oddM T.b_law_oddM .nil pass0 (pa_cons (pv 0) pa_nil)) (pa_cons (pe_ix ix_tup (pv 4) pe_int (fun _ _ => rfl)) (pa_cons pe_str (pa_cons pe_str (pa_cons pe_str (pa_cons pe_str (pa_cons pe_str pa_nil)))))))) (pe_call (ok_law_draw T) (hr.mono (by decide)) (by rfl) T.g_law_draw T.k_law_draw T.b_law_draw .nil pass0 (pa_cons (pv 0) (pa_cons pe_int pa_nil))) (fun _ _ => rfl)))
  (pss_one (ps_asg (pe_ifExp (pt_cmpR op_eq (pe_call (ok_law_draw T) (hr.mono (by decide)) (by rfl) T.g_law_draw T.k_law_draw T.b_law_draw .nil pass0 (pa_cons (pv 0) (pa_cons pe_int pa_nil))) pe_int (nomark _)) (pe_slice sl_tupA (pv 9) po_none (po_some (pe_op op_add pe_int (pe_call (ok_law_draw T) (hr.mono (by decide)) (by rfl) T.g_law_draw T.k_law_draw T.b_law_draw .nil pass0 (pa_cons (pv 0) (pa_cons pe_int pa_nil)))))) (pe_call (ok_law_bent T) (hr.mono (by decide)) (by rfl) T.g_law_bent T.k_law_bent T.b_law_bent .nil pass0 (pa_cons (pv 0) (pa_cons (pv 4) (pa_cons (pv 10) pa_nil))))) (pg_sub (pv 3) pe_int set_list))))) pss_nil)
  (pss_cons (ps_if (pt_cmpR op_in_seq (pv 2) (pe_lst (pa_cons pe_int (pa_cons pe_int pa_nil))) (by rfl)) (pss_one (ps_asg (pe_call (ok_law_bent T) (hr.mono (by decide)) (by rfl) T.g_law_bent T.k_law_bent T.b_law_bent .nil pass0 (pa_cons (pv 0) (pa_cons (pe_ix ix_list (pv 1) (pv 2) (fun _ _ => rfl)) (pa_cons (pe_call (ok_law_spoilt_line T) (hr.mono (by decide)) (by rfl) T.g_law_spoilt_line T.k_law_spoilt_line T.b_law_spoilt_line .nil pass0 (pa_cons (pv 0) (pa_cons (pe_ix ix_list (pv 1) (pv 2) (fun _ _ => rfl)) (pa_cons (pv 4) pa_nil)))) pa_nil)))) (pg_sub (pv 3) (pv 2) set_list))) pss_nil)
  (pss_cons (ps_if (pt_cmpR op_eq (pv 2) pe_int (nomark _)) (pss_cons (ps_set (i := 10) sc.nd rfl (by first | exact Or.inl rfl | exact Or.inr rfl) (pe_ix ix_list (pe_lst (pa_cons (pe_call (ok_law_oddM T) (hr.mono (by decide)) (by rfl) T.g_law_oddM T.k_law_oddM T.b_law_oddM .nil pass0 (pa_cons (pv 0) pa_nil)) (pa_cons (pe_ix ix_tup (pv 4) pe_int (fun _ _ => rfl)) (pa_cons (pe_ix ix_tup (pv 4) (pe_un un_neg pe_int) (fun _ _ => rfl)) pa_nil)))) (pe_call (ok_law_draw T) (hr.mono (by decide)) (by rfl) T.g_law_draw T.k_law_draw T.b_law_draw .nil pass0 (pa_cons (pv 0) (pa_cons pe_int pa_nil))) (fun _ _ => rfl)))
  (pss_one (ps_asg (pe_call (ok_law_bent T) (hr.mono (by decide)) (by rfl) T.g_law_bent T.k_law_bent T.b_law_bent .nil pass0 (pa_cons (pv 0) (pa_cons (pe_ix ix_list (pv 1) pe_int (fun _ _ => rfl)) (pa_cons (pv 10) pa_nil)))) (pg_sub (pv 3) pe_int set_list)))) pss_nil)
  (pss_one (ps_ret (pv 3)))))))))
theorem sc_law_heard14 : FnScope ["_law_act", "_law_kept", "e", "_law_word"] ["_law_act"] (defScope st_law_heard14) := ⟨rfl, rfl, rfl, by decide +kernel, rfl, by decide +kernel, by decide +kernel⟩
theorem gives_law_heard14 {X : Cx} (T : Tx X.K X.mg) {k : Nat} (hk : 7 ≤ k + 1) (cdv : Value) : GivesN X k ["_law_act", "_law_kept", "e", "_law_word"] "_law_heard" (defScope st_law_heard14) (He.ga X.K "_law_heard") cdv (defBody st_law_heard14) "_law_act" (TT_law_heard14 X.K) := by
  intro q f c' s H Q tl hr0 act hc h
  have hr := hr0.mono hk
  have sc := sc_law_heard14
  have act : ∀ (W : WX) (pn : List (Addr × Obj)) (xe : Value → Shared → Prop) (p1 p2 : Pos), L2N.Takes ((cxOf CX0 X.prog X.w X.K X.mg X.base ["_law_act", "_law_kept", "e", "_law_word"] "_law_heard" (defScope st_law_heard14) (He.ga X.K "_law_heard") cdv X.A X.stack s H E0).nox.tr pn xe) W → PE ((cxOf CX0 X.prog X.w X.K X.mg X.base ["_law_act", "_law_kept", "e", "_law_word"] "_law_heard" (defScope st_law_heard14) (He.ga X.K "_law_heard") cdv X.A X.stack s H E0).nox.tr pn xe) (.Call (.Name "_law_act" p1) [] [] p2) (tAct f c' q tl W) := act
  refine ⟨t_law_heard14 X.K f c' q tl, ?_, pure_law_heard14 T.inX T.exm hc h⟩
  exact (pss_cons (ps_set (i := 1) sc.nd rfl (by first | exact Or.inl rfl | exact Or.inr rfl) pe_non)
  (pss_cons (ps_tryL rfl rfl sc.nd (fun W pn xe tk _ => (pss_cons (ps_expr (act W pn xe _ _ tk))
  (pss_one (ps_set (i := 3) sc.nd rfl (by first | exact Or.inl rfl | exact Or.inr rfl) pe_str)))) (ClsOk.more (by rfl) (by rfl) ⟨(by rfl), by decide, .inl T.g_InvalidSigns⟩ (fun a oe cls d pn hz hf => (pss_one (ps_parH (fun _ _ _ _ I => ⟨_, hot_suite hz hf I⟩) sc.nd rfl rfl (by decide) rfl rfl (pa_cons pe_str (pa_cons (pe_xf T.xk_InvalidSigns.xf T.xk_InvalidSigns.no hz.zc hf (pv 2)) pa_nil)) (by rfl)))) (ClsOk.more (by rfl) (by rfl) ⟨(by rfl), by decide, .inl T.g_InvalidStates⟩ (fun a oe cls d pn hz hf => (pss_one (ps_parH (fun _ _ _ _ I => ⟨_, hot_suite hz hf I⟩) sc.nd rfl rfl (by decide) rfl rfl (pa_cons pe_str (pa_cons (pe_xf T.xk_InvalidStates.xf T.xk_InvalidStates.no hz.zc hf (pv 2)) pa_nil)) (by rfl)))) (ClsOk.more (by rfl) (by rfl) ⟨(by rfl), by decide, .inl T.g_InvalidRows⟩ (fun a oe cls d pn hz hf => (pss_one (ps_parH (fun _ _ _ _ I => ⟨_, hot_suite hz hf I⟩) sc.nd rfl rfl (by decide) rfl rfl (pa_cons pe_str (pa_cons (pe_xf T.xk_InvalidRows.xf T.xk_InvalidRows.no hz.zc hf (pv 2)) pa_nil)) (by rfl)))) (ClsOk.more (by rfl) (by rfl) ⟨(by rfl), by decide, .inl T.g_InvalidTurns⟩ (fun a oe cls d pn hz hf => (pss_one (ps_parH (fun _ _ _ _ I => ⟨_, hot_suite hz hf I⟩) sc.nd rfl rfl (by decide) rfl rfl (pa_cons pe_str (pa_cons (pe_xf T.xk_InvalidTurns.xf T.xk_InvalidTurns.no hz.zc hf (pv 2)) pa_nil)) (by rfl)))) ClsOk.none)))))
  (pss_one (ps_ret (pe_lst (pa_cons (pv 3) (pa_cons (pe_call (ok_law_faceX T 6) (hr.mono (by decide)) (by rfl) T.g_law_faceX T.k_law_faceX T.b_law_faceX .nil pass0 (pa_cons (pv 1) pa_nil)) pa_nil)))))))
theorem sc_law_parts_right : FnScope ["_law_parts_here", "_law_abc", "_law_posts", "_law_lines", "_law_ends", "_law_oks", "_law_due"] ["_law_parts_here"] (defScope st_law_parts_right) := ⟨rfl, rfl, rfl, by decide +kernel, rfl, by decide +kernel, by decide +kernel⟩
theorem ok_law_parts_right (T : Tx K mg) (TB : ∀ i : Nat, i < 1 → TabB base mg (tabX K i).1 (tabX K i).2) : FnOk P w K mg base CX0 10 (He.ga K "_law_parts_right") (fdOf K (He.ga K "_law_parts_right")) ["_law_parts_here"] (sp_law_parts_right K) := by
  have sc := sc_law_parts_right
  obtain ⟨gqLoop_init_5_yes, kbqLoop_init_5_yes⟩ := T.qLoop_init_5_yes
  obtain ⟨gqLoop_init_1_yes_turns_states_rows_signs, kbqLoop_init_1_yes_turns_states_rows_signs⟩ := T.qLoop_init_1_yes_turns_states_rows_signs
  obtain ⟨gqLoop_init_4, kbqLoop_init_4⟩ := T.qLoop_init_4
  refine FunD_okC T.f_law_parts_right sc (fun vs H Q E h => ?_) (fun A outer s H vs Q E hr h => ⟨t_law_parts_right K, PSs.nox ?_, pure_law_parts_right T.dfl0 T.dfk0 h⟩)
  · obtain ⟨_, rfl, _⟩ := h
    rfl
  · exact (pss_cons (ps_asg (pv 0) (pg_lst rfl (pgs_cons (pg_name (i := 1) sc.nd rfl (by first | exact Or.inl rfl | exact Or.inr rfl)) (pgs_cons (pg_name (i := 2) sc.nd rfl (by first | exact Or.inl rfl | exact Or.inr rfl)) (pgs_cons (pg_name (i := 3) sc.nd rfl (by first | exact Or.inl rfl | exact Or.inr rfl)) (pgs_cons (pg_name (i := 4) sc.nd rfl (by first | exact Or.inl rfl | exact Or.inr rfl)) (pgs_cons (pg_name (i := 5) sc.nd rfl (by first | exact Or.inl rfl | exact Or.inr rfl)) pgs_nil)))))))
  (pss_cons (ps_set (i := 6) sc.nd rfl (by first | exact Or.inl rfl | exact Or.inr rfl) (pe_call (ok_law_loop_due T) (hr.mono (by decide)) (by rfl) T.g_law_loop_due T.k_law_loop_due T.b_law_loop_due .nil pass0 (pa_cons (pv 0) pa_nil)))
  (pss_cons (ps_if (pt_cmpR (op_neD hr.units) (pe_lamN (k := 7) (T := tabs14 K) (by rfl) T.g_law_heard14 T.f_law_heard14 T.b_law_heard14 sc_law_heard14 rfl (Or.inl rfl) (gives_law_heard14 T (by decide)) (TB 0 (by decide)) rfl (.head _) (T.tu_law_parts_right) (hr.mono (by decide)) (LamX.lamS_by (by kernel_rfl)) rfl (fun _ _ _ _ _ => rfl) (fun A outer s H E f c' hr => (pe_makeK (ks := ["yes"]) T.mk_Loop (okx_Loop_init T) (hr.mono (by decide)) (by rfl) T.g_Loop kbqLoop_init_5_yes lam_passes (pa_cons (pv 1) (pa_cons (pv 2) (pa_cons (pv 3) (pa_cons (pv 4) pa_nil)))) (pk_cons (pv 5) pk_nil)))) (pv 6) (nomark _)) (pss_one (ps_ret pe_bl)) pss_nil)
  (pss_cons (ps_if (pt_cmpR (op_neD hr.units) (pe_lamN (k := 7) (T := tabs14 K) (by rfl) T.g_law_heard14 T.f_law_heard14 T.b_law_heard14 sc_law_heard14 rfl (Or.inl rfl) (gives_law_heard14 T (by decide)) (TB 0 (by decide)) rfl (.head _) (T.tu_law_parts_right) (hr.mono (by decide)) (LamX.lamS_by (by kernel_rfl)) rfl (fun _ _ _ _ _ => rfl) (fun A outer s H E f c' hr => (pe_makeK0 (ks := ["yes", "turns", "states", "rows", "signs"]) T.mk_Loop (okx_Loop_init T) (hr.mono (by decide)) (by rfl) T.g_Loop kbqLoop_init_1_yes_turns_states_rows_signs lam_passes (pk_cons (pv 5) (pk_cons (pv 4) (pk_cons (pv 2) (pk_cons (pv 3) (pk_cons (pv 1) pk_nil)))))))) (pv 6) (nomark _)) (pss_one (ps_ret pe_bl)) pss_nil)
  (pss_one (ps_ret (pe_cmpR (op_eqD hr.units) (pe_lamN (k := 7) (T := tabs14 K) (by rfl) T.g_law_heard14 T.f_law_heard14 T.b_law_heard14 sc_law_heard14 rfl (Or.inl rfl) (gives_law_heard14 T (by decide)) (TB 0 (by decide)) rfl (.head _) (T.tu_law_parts_right) (hr.mono (by decide)) (LamX.lamS_by (by kernel_rfl)) rfl (fun _ _ _ _ _ => rfl) (fun A outer s H E f c' hr => (pe_makeK (ks := []) T.mk_Loop (okx_Loop_init T) (hr.mono (by decide)) (by rfl) T.g_Loop kbqLoop_init_4 lam_passes (pa_cons (pv 1) (pa_cons (pv 2) (pa_cons (pv 3) pa_nil))) pk_nil))) (pe_call (ok_law_loop_due T) (hr.mono (by decide)) (by rfl) T.g_law_loop_due T.k_law_loop_due T.b_law_loop_due .nil pass0 (pa_cons (pe_lst (pa_cons (pv 1) (pa_cons (pv 2) (pa_cons (pv 3) (pa_cons (pe_tup pa_nil) (pa_cons (pe_tup pa_nil) pa_nil)))))) pa_nil)) (nomark _))))))))
theorem sc_law_right14 : FnScope ["_law_pool_here", "_law_turn", "_law_model_here", "_law_parts_here", "_law_way", "_law_twice", "_law_near", "_law_far", "_law_k"] ["_law_pool_here"] (defScope st_law_right14) := ⟨rfl, rfl, rfl, by decide +kernel, rfl, by decide +kernel, by decide +kernel⟩
theorem ok_law_right14 (T : Tx K mg) (TB : ∀ i : Nat, i < 1 → TabB base mg (tabX K i).1 (tabX K i).2) : FnOk P w K mg base CX0 11 (He.ga K "_law_right") (fdOf K (He.ga K "_law_right")) ["_law_pool_here"] (sp_law_right14 K) := by
  have sc := sc_law_right14
  refine FunD_okC T.f_law_right14 sc (fun vs H Q E h => ?_) (fun A outer s H vs Q E hr h => ⟨t_law_right14 K, PSs.nox ?_, pure_law_right14 h⟩)
  · obtain ⟨_, rfl, _⟩ := h
    rfl
  · exact (pss_cons (ps_for PassesOwn.never rfl (pi_range1 (by rfl) T.n_range (pa_cons pe_int pa_nil)) (pg_name (i := 1) sc.nd rfl (by first | exact Or.inl rfl | exact Or.inr rfl)) (pss_cons (ps_set (i := 2) sc.nd rfl (by first | exact Or.inl rfl | exact Or.inr rfl) (pe_call (ok_law_model T) (hr.mono (by decide)) (by rfl) T.g_law_model T.k_law_model T.b_law_model .nil pass0 (pa_cons (pv 0) (pa_cons (pe_call (ok_law_signs T) (hr.mono (by decide)) (by rfl) T.g_law_signs T.k_law_signs T.b_law_signs .nil pass0 (pa_cons (pv 0) (pa_cons pe_int pa_nil))) (pa_cons pe_int (pa_cons pe_bl pa_nil))))))
  (pss_cons (ps_set (i := 3) sc.nd rfl (by first | exact Or.inl rfl | exact Or.inr rfl) (pe_call (ok_law_parts T) (hr.mono (by decide)) (by rfl) T.g_law_parts T.k_law_parts T.b_law_parts .nil pass0 (pa_cons (pv 0) (pa_cons (pv 2) pa_nil))))
  (pss_cons (ps_set (i := 4) sc.nd rfl (by first | exact Or.inl rfl | exact Or.inr rfl) (pe_call (ok_law_draw T) (hr.mono (by decide)) (by rfl) T.g_law_draw T.k_law_draw T.b_law_draw .nil pass0 (pa_cons (pv 0) (pa_cons pe_int pa_nil))))
  (pss_cons (ps_if (pt_cmpR op_lt (pv 4) pe_int (nomark _)) (pss_one (ps_set (i := 3) sc.nd rfl (by first | exact Or.inl rfl | exact Or.inr rfl) (pe_call (ok_law_spoilt T) (hr.mono (by decide)) (by rfl) T.g_law_spoilt T.k_law_spoilt T.b_law_spoilt .nil pass0 (pa_cons (pv 0) (pa_cons (pv 3) (pa_cons (pv 4) pa_nil)))))) pss_nil)
  (pss_cons (ps_if (pt_cmpR op_in_seq (pv 4) (pe_lst (pa_cons pe_int (pa_cons pe_int pa_nil))) (by rfl)) (pss_cons (ps_asg (pe_tup (pa_cons (pe_call (ok_law_draw T) (hr.mono (by decide)) (by rfl) T.g_law_draw T.k_law_draw T.b_law_draw .nil pass0 (pa_cons (pv 0) (pa_cons pe_int pa_nil))) (pa_cons (pe_call (ok_law_draw T) (hr.mono (by decide)) (by rfl) T.g_law_draw T.k_law_draw T.b_law_draw .nil pass0 (pa_cons (pv 0) (pa_cons pe_int pa_nil))) pa_nil))) (pg_tup rfl (pgs_cons (pg_name (i := 6) sc.nd rfl (by first | exact Or.inl rfl | exact Or.inr rfl)) (pgs_cons (pg_name (i := 7) sc.nd rfl (by first | exact Or.inl rfl | exact Or.inr rfl)) pgs_nil))))
  (pss_cons (ps_set (i := 5) sc.nd rfl (by first | exact Or.inl rfl | exact Or.inr rfl) (pe_call (ok_law_spoilt T) (hr.mono (by decide)) (by rfl) T.g_law_spoilt T.k_law_spoilt T.b_law_spoilt .nil pass0 (pa_cons (pv 0) (pa_cons (pv 3) (pa_cons (pv 6) pa_nil)))))
  (pss_one (ps_set (i := 3) sc.nd rfl (by first | exact Or.inl rfl | exact Or.inr rfl) (pe_lc (own := [("_law_k", 8)]) (g := gName 8) (by rfl) sc.nd (pi_range1 (by rfl) T.n_range (pa_cons pe_int pa_nil)) (blkOk_by (own := [("_law_k", 8)]) (by kernel_rfl)) (fun _ _ _ _ _ => pg_name (i := 8) sc.nd rfl (by first | exact Or.inl rfl | exact Or.inr rfl)) (fun _ _ _ _ _ => pts_nil) (fun _ _ _ _ _ => (pe_ifExp (pt_cmpR op_eq (pv 8) (pv 7) (nomark _)) (pe_ix ix_list (pe_call (ok_law_spoilt T) (hr.mono (by decide)) (by rfl) T.g_law_spoilt T.k_law_spoilt T.b_law_spoilt .nil pass0 (pa_cons (pv 0) (pa_cons (pv 3) (pa_cons (pv 7) pa_nil)))) (pv 8) (fun _ _ => rfl)) (pe_ix ix_list (pv 5) (pv 8) (fun _ _ => rfl))))))))) pss_nil)
  (pss_one (ps_if (pt_not (pt_val (pe_call (ok_law_parts_right T TB) (hr.mono (by decide)) (by rfl) T.g_law_parts_right T.k_law_parts_right T.b_law_parts_right .nil pass0 (pa_cons (pv 3) pa_nil)))) (pss_one (ps_ret pe_bl)) pss_nil))))))))
  (pss_one (ps_ret pe_bl)))
theorem sc_law_at_the_limit : FnScope ["_law_posts", "_law_lines", "_law_post", "_law_some", "_law_states_here"] [] (defScope st_law_at_the_limit) := ⟨rfl, rfl, rfl, by decide +kernel, rfl, by decide +kernel, by decide +kernel⟩
theorem ok_law_at_the_limit (T : Tx K mg) (TB : ∀ i : Nat, i < 1 → TabB base mg (tabX K i).1 (tabX K i).2) : FnOk P w K mg base CX0 11 (He.ga K "_law_at_the_limit") (fdOf K (He.ga K "_law_at_the_limit")) [] (sp_law_at_the_limit K) := by
  have sc := sc_law_at_the_limit
  refine FunD_okC T.f_law_at_the_limit sc (fun vs H Q E h => ?_) (fun A outer s H vs Q E hr h => ⟨t_law_at_the_limit K, PSs.nox ?_, pure_law_at_the_limit h⟩)
  · obtain ⟨rfl, _⟩ := h
    rfl
  · exact (pss_cons (ps_set (i := 0) sc.nd rfl (by first | exact Or.inl rfl | exact Or.inr rfl) (pe_tup (pa_cons pe_str (pa_cons pe_str (pa_cons pe_str (pa_cons pe_str (pa_cons pe_str (pa_cons pe_str (pa_cons pe_str pa_nil)))))))))
  (pss_cons (ps_set (i := 1) sc.nd rfl (by first | exact Or.inl rfl | exact Or.inr rfl) (pe_callTy call_tuple_of (by rfl) T.n_tuple (by decide +kernel) (pa_cons (pe_lc (own := [("_law_post", 2)]) (g := gName 2) (by rfl) sc.nd (pi_tup (pv 0)) (blkOk_by (own := [("_law_post", 2)]) (by kernel_rfl)) (fun _ _ _ _ _ => pg_name (i := 2) sc.nd rfl (by first | exact Or.inl rfl | exact Or.inr rfl)) (fun _ _ _ _ _ => pts_nil) (fun _ _ _ _ _ => (pe_tup (pa_cons (pv 2) (pa_cons pe_str (pa_cons (pv 2) (pa_cons pe_int pa_nil))))))) pa_nil)))
  (pss_cons (ps_if (PW.pt (pw_or (pt_not (pt_val (pe_call (ok_law_parts_right T TB) (hr.mono (by decide)) (by rfl) T.g_law_parts_right T.k_law_parts_right T.b_law_parts_right .nil pass0 (pa_cons (pe_lst (pa_cons pe_str (pa_cons (pe_slice sl_tupA (pv 0) po_none (po_some pe_int)) (pa_cons (pe_slice sl_tupA (pv 1) po_none (po_some pe_int)) (pa_cons (pe_tup pa_nil) (pa_cons (pe_tup pa_nil) pa_nil)))))) pa_nil)))) (pw_or1 (pt_not (pt_val (pe_call (ok_law_parts_right T TB) (hr.mono (by decide)) (by rfl) T.g_law_parts_right T.k_law_parts_right T.b_law_parts_right .nil pass0 (pa_cons (pe_lst (pa_cons pe_str (pa_cons (pv 0) (pa_cons (pv 1) (pa_cons (pe_tup pa_nil) (pa_cons (pe_tup pa_nil) pa_nil)))))) pa_nil))))))) (pss_one (ps_ret pe_bl)) pss_nil)
  (pss_cons (ps_set (i := 3) sc.nd rfl (by first | exact Or.inl rfl | exact Or.inr rfl) (pe_lst (pa_cons (pe_op op_catA (pe_op op_catA (pe_slice sl_tupA (pv 0) po_none (po_some pe_int)) (pe_tup (pa_cons pe_str pa_nil))) (pe_slice sl_tupA (pv 0) (po_some pe_int) po_none)) (pa_cons (pe_op op_catA (pe_slice sl_tupA (pv 0) po_none (po_some pe_int)) (pe_tup (pa_cons pe_str pa_nil))) (pa_cons (pe_op op_catA (pe_slice sl_tupA (pv 0) po_none (po_some pe_int)) (pe_tup (pa_cons pe_str (pa_cons pe_str pa_nil)))) (pa_cons (pe_tup pa_nil) pa_nil))))))
  (pss_one (ps_ret (pe_callB (cr_all rfl) (by rfl) T.n_all (by decide +kernel) (pa_cons (pe_lc (own := [("_law_states_here", 4)]) (g := gName 4) (by rfl) sc.nd (pi_list (pv 3)) (blkOk_by (own := [("_law_states_here", 4)]) (by kernel_rfl)) (fun _ _ _ _ _ => pg_name (i := 4) sc.nd rfl (by first | exact Or.inl rfl | exact Or.inr rfl)) (fun _ _ _ _ _ => pts_nil) (fun _ _ _ _ _ => (pe_call (ok_law_parts_right T TB) (hr.mono (by decide)) (by rfl) T.g_law_parts_right T.k_law_parts_right T.b_law_parts_right .nil pass0 (pa_cons (pe_lst (pa_cons pe_str (pa_cons (pv 4) (pa_cons (pv 1) (pa_cons (pe_tup pa_nil) (pa_cons (pe_tup pa_nil) pa_nil)))))) pa_nil)))) pa_nil))))))))
theorem sc_law14 : FnScope ["_law_script", "_law_k"] ["_law_script"] (defScope st_law14) := ⟨rfl, rfl, rfl, by decide +kernel, rfl, by decide +kernel, by decide +kernel⟩
theorem ok_law14 (T : Tx K mg) (TB : ∀ i : Nat, i < 1 → TabB base mg (tabX K i).1 (tabX K i).2) : FnOk P w K mg base CX0 12 (He.ga K "law") (fdOf K (He.ga K "law")) ["_law_script"] (sp_law14 K) := by
  have sc := sc_law14
  refine FunD_okC T.f_law14 sc (fun vs H Q E h => ?_) (fun A outer s H vs Q E hr h => ⟨t_law14 K, PSs.nox ?_, pure_law14 h⟩)
  · obtain ⟨_, _, rfl, _⟩ := h
    rfl
  · exact (pss_cons (ps_if (pt_not (pt_val (pe_call0 (ok_law_at_the_limit T TB) (hr.mono (by decide)) (by rfl) T.g_law_at_the_limit T.k_law_at_the_limit T.b_law_at_the_limit .nil pass0))) (pss_one (ps_ret pe_bl)) pss_nil)
  (pss_one (ps_ret (pe_callB (cr_all rfl) (by rfl) T.n_all (by decide +kernel) (pa_cons (pe_lc (own := [("_law_k", 1)]) (g := gName 1) (by rfl) sc.nd (pi_range1 (by rfl) T.n_range (pa_cons (pe_callB (call_max2 rfl) (by rfl) T.n_max (by decide +kernel) (pa_cons pe_int (pa_cons (pe_callB (call_min2 rfl) (by rfl) T.n_min (by decide +kernel) (pa_cons (pe_callB call_len (by rfl) T.n_len (by decide +kernel) (pa_cons (pv 0) pa_nil)) (pa_cons pe_int pa_nil))) pa_nil))) pa_nil)) (blkOk_by (own := [("_law_k", 1)]) (by kernel_rfl)) (fun _ _ _ _ _ => pg_name (i := 1) sc.nd rfl (by first | exact Or.inl rfl | exact Or.inr rfl)) (fun _ _ _ _ _ => pts_nil) (fun _ _ _ _ _ => (pe_call (ok_law_right14 T TB) (hr.mono (by decide)) (by rfl) T.g_law_right14 T.k_law_right14 T.b_law_right14 .nil pass0 (pa_cons (pe_call (ok_law_pool T) (hr.mono (by decide)) (by rfl) T.g_law_pool T.k_law_pool T.b_law_pool .nil pass0 (pa_cons (pe_call (ok_law_cell T) (hr.mono (by decide)) (by rfl) T.g_law_cell T.k_law_cell T.b_law_cell .nil pass0 (pa_cons (pv 0) (pa_cons (pv 1) pa_nil))) pa_nil)) pa_nil)))) pa_nil)))))
end
end WB
namespace WB
open PySem PySem.Spec PyProof.Rows L2 LamX
theorem facts {P : Program} {w : World} {K : Fr'} {h : Heap} {mg : Str → Option Value} {f : Addr} (X : K.In h) (G : h.Ns mainGlobals mg) (hfa : mg ("law" : Str) = some (.ref f)) (c : SaysW fa fn ex K) :
    ∃ fd : FuncData, (∀ (s : Shared) (v : Value), BindsTo s fd ⟨[v], []⟩ [("_law_script", v)]) ∧ ∀ base : Heap, K.In base → base.Ns mainGlobals mg → (∀ p ∈ tf.map (He.cT K), TabB base mg p.1 p.2) → FnOk P w K mg base CX0 12 f fd ["_law_script"] (sp_law14 K) := by
  have T : Tx K mg := ⟨c, h, X, G⟩
  have e := hfa.symm.trans T.g_law14
  cases e
  have b := FunD.bindsA (ps := ["_law_script"]) (kws := d_law14.kws K) T.f_law14 fun _ _ _ _ _ _ us hl => match us, hl with | [_], _ => rfl
  refine ⟨_, fun s v => b s [v] rfl, fun base _ _ tb => ok_law14 T fun i hi => ?_⟩
  refine tb _ (List.mem_map.mpr ⟨tf[i]'hi, List.getElem_mem _, ?_⟩)
  match i, hi with
  | 0, _ => rfl
end WB
open PySem PySem.W PySem.Calls PyProof.Rows in
set_option maxRecDepth 100000 in
set_option maxHeartbeats 0 in
theorem PySem.Challenge.cw_wherebegun_k14_loops_refused_holds : PySem.Challenge.rw_wherebegun_k14_loops_refused.Holds := by
  w_on; o_law
  refine HandSHeadRun.head_any (r := OpenLaw.row PySem.Challenge.rw_wherebegun_k14_loops_refused) (q := view (OpenLaw.row PySem.Challenge.rw_wherebegun_k14_loops_refused).prog [76]) (H := WB.hk) (ob := WB.ob) (M := 20000) (loose := WB.looseN) (d := HandSHeadRun.topDef (OpenLaw.row PySem.Challenge.rw_wherebegun_k14_loops_refused).prog 76) (kwd := []) WB.ob_eq
    (by kernel_rfl) (fun s => by kernel_rfl) WB.runH (by kernel_rfl) (by kernel_rfl) (by kernel_rfl) (by rfl) (by first | assumption | decide +kernel) (by decide +kernel) ⟨rfl, rfl, rfl, rfl, rfl, by decide +kernel⟩ ?hw ?hc
  case hw => w_witness2
  case hc =>
    refine WB.walk_ofTE (l := PySem.Challenge.rw_wherebegun_k14_loops_refused) (n := 63) (k := 12) (x := "_law_script") (CX := L2.CX0) rfl (by decide) (by kernel_rfl) ⟨rfl, by decide, by decide⟩ ?F (fun _ _ _ _ z => z)
    intro w mg fa h Y G hmg0
    obtain ⟨K, KX, c⟩ := Y
    have hmg : mg ("law" : PySem.Str) = some (.ref fa) := by
      have e : (HandSHeadRun.topDef (OpenLaw.row PySem.Challenge.rw_wherebegun_k14_loops_refused).prog 76).name = ("law" : PySem.Str) := by kernel_rfl
      rw [← e]
      exact hmg0
    obtain ⟨fd, hb, hF⟩ := WB.facts (P := (PySem.Challenge.rw_wherebegun_k14_loops_refused).prog) (w := w) KX G hmg c.c
    refine ⟨K, KX, fd, WB.tf.map (He.cT K), WB.sp_law14 K, ?_, ?_, ?_, hb, fun H a ns hl _ hT hS => ⟨a, ns, rfl, hS, hl, WB.tabs_ofL (l := WB.tabL) hT, fun _ => rfl⟩, hF⟩
    · intro p hp
      obtain ⟨q, hq, rfl⟩ := List.mem_map.mp hp
      exact c.empty q hq
    · intro p hp
      obtain ⟨q, hq, rfl⟩ := List.mem_map.mp hp
      exact c.out q hq
    · intro p hp
      obtain ⟨q, hq, rfl⟩ := List.mem_map.mp hp
      exact PySem.W.codeHd_of_K KX (c.hd q hq)
