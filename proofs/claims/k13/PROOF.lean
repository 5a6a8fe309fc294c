import PyProof.Rows.All
import Wide.All
import OpenK.AllK
import Wide.FinOn
import HandS.ForMost
import HandS.Property
import HandS.IsInst
import HandS.Defaults
import HandS.MakeKw
import HandS.WideBits
import HandS.TupAny
import HandS.Walk
import HandS.Deep
import HandS.OwnEq
import HandS.HeadHook4
import KE.KOpsOwn
import KE.KCallOwn
import HandS.Style
import HandS.TryOnly
import HandS.RaiseMore
import KE.DatumOrd
import PyProof.Rows.StrRev
import HandS.Strs
import PyProof.ListStr
import HandS.Conv
import HandS.More
import PyProof.StrLawsIn
import HandS.ClsMeth
import HandS.HeadNt
import HandS.Head0
import HandS.Head1
import HandS.Head2
import HandS.HeadEnd
import HandS.Star
import HandS.SetTxtIn
import PyProof.Rows.Range3
import PyProof.CollectStr
import PyProof.TupleOfSeq
import KE.GoesMore
import HandS.DictComp
import HandS.MakeKwOnly
import HandS.Wide
import HandS.List
import PySem.Challenge.RW_wherebegun_k13_loops_and_their_rows
set_option Elab.async false
set_option linter.all false
set_option maxRecDepth 100000
set_option maxHeartbeats 4000000
/-! own operators over the layer -/
namespace WB
open PySem PySem.Spec PyProof.Rows L2
section
variable {X : Cx} {CX : CXT} {k : Nat} {f C : Addr} {fd : FuncData} {ps : List Str} {sp : Sp} {dvs : List V} {ds : List Value} {E : XK}
/-- the def at f runs at A, somewhere below X -/
theorem run_sub {A : Around} {pins : List (Addr × Obj)} {σ : L2.St} {H : Hp} {s : Shared} {Q : VK} {us : List Value} {vs : List V} (F : FnOk X.prog X.w X.K X.mg X.base CX k f fd ps sp) (sb : Sub X k A) (hb : Binds X.K fd ps ds) (hd : Vals dvs ds) (hx : Passes CX X E)
    (I : Inv X pins σ H s) (r : Vals vs us) (h : sp (vs ++ dvs) H Q E) : wpAny (model X.prog X.w) A (call (.ref f) us) (EP X pins σ Q) X.xe s := by
  have r2 : Vals (vs ++ dvs) (us ++ ds) := r.append hd
  have hl : (us ++ ds).length = ps.length := by rw [← r2.length]; exact F.len _ _ _ _ h
  have e0 : Env0 X.prog X.w X.K X.mg X.base A X.stack s H := by
    have e := I.env0
    exact ⟨by rw [sb.fr]; exact e.frames, e.mod, e.bs, e.bsz, e.funs, e.frf, e.hok, e.bare⟩
  refine wpAny_call (codeAny_mono (F.run A X.stack s H ⟨us, []⟩ (us ++ ds) (vs ++ dvs) Q E sb.room e0 (hb s us I.kIn hl) r2 h) fun r s' hq => ?_)
  cases r with
  | error e => exact hx pins σ H s e s' I hq
  | ok fl =>
    cases fl with
    | ret u => exact I.after hq
    | next => exact False.elim hq
    | brk => exact False.elim hq
    | cont => exact False.elim hq
/-- what stands for an instance -/
theorem inst_at {pins : List (Addr × Obj)} {σ : L2.St} {H : Hp} {s : Shared} {a C dx : Addr} {fs : List (Str × V)} (I : Inv X pins σ H s) (e : H a = some (.ins C dx fs)) : ∃ ox od, PySem.W.InstAt s.heap a ox C od := by
  obtain ⟨mA, J, _⟩ := ins_get I.hok e
  obtain ⟨od, J, _⟩ := J.look
  exact ⟨_, _, J⟩
/-- an own special method's def: found on the class, a plain function -/
structure Spec1 (K : PySem.W.Frag) (C : Addr) (m : Str) (f : Addr) : Prop where
  at_ : PySem.W.findIn K (.ref C) m = some (some (.ref f))
  fn : PySem.W.isFn K (.ref f) = true
/-- str(o) -/
def rStrO (C : Addr) (sp : Sp) (E : XK) : List V → Hp → VK → Prop := fun xs H Q => ∃ a dx fs, xs = [.ref a] ∧ H a = some (.ins C dx fs) ∧ sp [.ref a] H (fun z H' => ∃ y, z = .str y ∧ Q z H') E
/-- o == y, o != y by the own __eq__ -/
def rEqO (C : Addr) (sp : Sp) (E : XK) : R2 := fun x y H Q => ∃ a dx fs b dy gs, x = .ref a ∧ y = .ref b ∧ H a = some (.ins C dx fs) ∧ H b = some (.ins C dy gs) ∧ sp [x, y] H (fun z H' => ∃ c, z = .bl c ∧ Q z H') E
theorem op_eqO (S : Spec1 X.K C "__eq__" f) (F : FnOk X.prog X.w X.K X.mg X.base CX k f fd ps sp) (hr : Room k X.A) (hb : Binds X.K fd ps []) (hx : Passes CX X E) : OpR X (compareOp .Eq) (rEqO C sp E) := by
  intro pins s σ H x y v u Q I rx ry h
  obtain ⟨a, dx, fs, b, dy, gs, rfl, rfl, ha, hb', h⟩ := h
  cases rx
  cases ry
  obtain ⟨ox, od, J⟩ := inst_at I ha
  obtain ⟨ox', od', J'⟩ := inst_at I hb'
  obtain ⟨m, hF⟩ := I.fr
  have sb : Sub X k X.A := ⟨hr, rfl⟩
  show wpAny (model X.prog X.w) X.A (richCompare .Eq (.ref a) (.ref b)) (EP X pins σ Q) X.xe s
  refine PySem.W.cmp_K (op := .Eq) (tb := .ref C) sb.room.units0 hF I.ok.mod.kin J J'.type (by simp [PySem.W.notFirst]) S.at_ S.fn (wpAny_mono (run_sub (dvs := []) (vs := [.ref a, .ref b]) F sb hb .nil hx I (.cons rfl (.cons rfl .nil)) h) (fun v s' hv => ?_) fun _ _ z => z)
  obtain ⟨z, H', I', rz, c, rfl, q⟩ := hv
  cases rz
  exact ⟨.bl c, H', I', rfl, q⟩
end
end WB
/-! rules in one form: texts as lists of codes -/
namespace WB
open PySem PySem.Spec PyProof.Rows L2
/-- a text of these codes -/
def S (l : List Nat) : Str := ⟨l.toArray⟩
theorem S_cps (l : List Nat) : (S l).cps.toList = l := by simp [S]
theorem S_len (l : List Nat) : (S l).length = l.length := by simp [S, Str.length]
theorem S_app (a b : List Nat) : S a ++ S b = S (a ++ b) := by
  show Str.mk (a.toArray ++ b.toArray) = S (a ++ b)
  simp [S]
theorem S_inj {a b : List Nat} (h : S a = S b) : a = b := by
  have := congrArg (fun z : Str => z.cps.toList) h
  simpa [S] using this
theorem S_of (z : Str) : z = S z.cps.toList := by
  cases z
  simp [S]
def rAddI : R2 := rI0 fun i j => .int (i + j)
def rSubI : R2 := rI0 fun i j => .int (i - j)
def rMulI : R2 := rI CMul fun i j => .int (i * j)
def rDivI : R2 := rI CDiv fun i j => .int (i / j)
def rModI : R2 := rI (fun _ j => 0 < j) fun i j => .int (i % j)
def rPowI : R2 := rI CPow fun i j => .int (i ^ j.toNat)
def rLtI : R2 := rI0 fun i j => .bl (decide (i < j))
def rLeI : R2 := rI0 fun i j => .bl (decide (i ≤ j))
def rGtI : R2 := rI0 fun i j => .bl (decide (j < i))
def rGeI : R2 := rI0 fun i j => .bl (decide (j ≤ i))
def rNegI : V → Hp → VK → Prop := rU fun i => .int (-i)
def rLenV (K : PySem.W.Frag) : List V → Hp → VK → Prop := fun xs H Q => ∃ x n, xs = [x] ∧ LenV K x H n ∧ Q (.int n) H
def rAbsI : List V → Hp → VK → Prop := fun xs H Q => ∃ i, xs = [.int i] ∧ Q (.int (if i < 0 then -i else i)) H
def rIntI : List V → Hp → VK → Prop := fun xs H Q => (∃ i, xs = [.int i] ∧ Q (.int i) H) ∨ ∃ k, xs = [.bl k] ∧ Q (.int (if k then 1 else 0)) H
def rMin2 : List V → Hp → VK → Prop := fun xs H Q => ∃ i j, xs = [.int i, .int j] ∧ Q (.int (if j < i then j else i)) H
def rMax2 : List V → Hp → VK → Prop := fun xs H Q => ∃ i j, xs = [.int i, .int j] ∧ Q (.int (if j > i then j else i)) H
def rDivmod : List V → Hp → VK → Prop := fun xs H Q => ∃ i j, xs = [.int i, .int j] ∧ CDivP i j ∧ ∀ p, H p = none → Q (.ref p) (upd H p (.tup [.int (i / j), .int (i % j)]))
def rInSg : R2 := fun x y H Q => ∃ (c : Nat) (z : Str), x = .str ⟨#[c]⟩ ∧ y = .str z ∧ Q (.bl (decide (c ∈ z.cps.toList))) H
def rNotInSg : R2 := fun x y H Q => ∃ (c : Nat) (z : Str), x = .str ⟨#[c]⟩ ∧ y = .str z ∧ Q (.bl (!decide (c ∈ z.cps.toList))) H
def rIsN1 : R2 := fun x y H Q => y = .non ∧ Q (.bl (decide (x = .non))) H
def rNotN1 : R2 := fun x y H Q => y = .non ∧ Q (.bl (!decide (x = .non))) H
def rListOf (K : PySem.W.Frag) : List V → Hp → VK → Prop := fun xs H Q => ∃ p ys, xs = [.ref p] ∧ (SqL K H p ys ∨ SqT K H p ys) ∧ ∀ l, H l = none → Q (.ref l) (upd H l (.lst ys))
def rJoin (K : PySem.W.Frag) : V → List V → Hp → VK → Prop := fun x xs H Q => ∃ a p, ∃ ys : List Str, x = .str a ∧ xs = [.ref p] ∧ (SqL K H p (ys.map V.str) ∨ SqT K H p (ys.map V.str)) ∧
      (ys.map (·.length)).sum + ys.length * a.length ≤ 16777216 ∧ Q (.str (Txt.join a ys)) H
section
variable {X : Cx}
theorem pe_globI {x : Str} {i : Int} {pos : Pos} (hg : Gl X x) (hm : ∃ t, X.mg x = some (.int i t)) (hd : (x == ("__debug__" : Str)) = false := by decide) : PE X (.Name x pos) (tC (.int i)) := by
  obtain ⟨t, h⟩ := hm
  exact pe_glob hg h ⟨t, rfl⟩ hd
theorem pe_globS {x z : Str} {pos : Pos} (hg : Gl X x) (hm : ∃ t, X.mg x = some (.str z t)) (hd : (x == ("__debug__" : Str)) = false := by decide) : PE X (.Name x pos) (tC (.str z)) := by
  obtain ⟨t, h⟩ := hm
  exact pe_glob hg h ⟨t, rfl⟩ hd
/-- s + t -/
def rAddS : R2 := fun x y H Q => ∃ a b, x = .str (S a) ∧ y = .str (S b) ∧ a.length + b.length ≤ sizeLine ∧ Q (.str (S (a ++ b))) H
theorem op_addS : OpR X (binaryOp .Add) rAddS := by
  intro pins s σ H x y v u Q I rx ry h
  obtain ⟨a, b, rfl, rfl, hl, q⟩ := h
  exact op_add_str pins s σ H _ _ v u Q I rx ry ⟨_, _, rfl, rfl, by rw [S_len, S_len]; exact hl, by rw [S_app]; exact q⟩
end
end WB
namespace WB
open PySem PySem.Spec PyProof.Rows L2
/-- the least of x :: xs -/
def minL (x : List Nat) (xs : List (List Nat)) : List Nat := xs.foldl (fun a y => if decide (y < a) = true then y else a) x
abbrev vS (l : List Nat) : V := .str (S l)
section
variable {X : Cx}
/-- s[::-1] -/
def tRevS (te : TE) : TE := fun σ H Q => te σ H fun x H1 => ∃ l : List Nat, x = vS l ∧ l.length ≤ sizeLine ∧ Q (vS l.reverse) H1
variable {CX : CXT} {k : Nat} {f C : Addr} {fd : FuncData} {ps : List Str} {sp : Sp} {E : XK}
end
end WB
/-! stepping through readings: one lemma a form; the heap is known by what stands in it -/
namespace WB
open PySem PySem.Spec PyProof.Rows L2
abbrev St := L2.St
/-- all that stood stands, but for the objects at m -/
def Ex (m : List Addr) (H H' : Hp) : Prop := ∀ b o, b ∉ m → H b = some o → H' b = some o
section
variable {m m' : List Addr} {H H' H1 H2 : Hp} {a p : Addr} {o u : HO} {K : PySem.W.Frag} {xs : List V}
theorem Ex.rfl : Ex m H H := fun _ _ _ h => h
theorem Ex.trans (a : Ex m H H1) (b : Ex m H1 H2) : Ex m H H2 := fun x o n h => b x o n (a x o n h)
theorem Ex.snoc (b : Ex m H1 H2) (a : Ex m H H1) : Ex m H H2 := a.trans b
theorem Ex.wide (e : Ex [] H H') : Ex m H H' := fun b o _ h => e b o (by simp) h
theorem Ex.snocW (b : Ex [] H1 H2) (a : Ex m H H1) : Ex m H H2 := a.trans b.wide
theorem Ex.new (h : H p = none) : Ex m H (upd H p o) := fun a u _ e => by rw [upd_ne (ne_of_none e h)]; exact e
theorem Ex.put (hp : p ∈ m) : Ex m H (upd H p o) := fun a u n e => by rw [upd_ne (fun z => n (by rw [z]; exact hp))]; exact e
theorem Ex.get (e : Ex m H H') (n : a ∉ m) (h : H a = some o) : H' a = some o := e a o n h
theorem Ex.get0 (e : Ex [] H H') (h : H a = some o) : H' a = some o := e a o (by simp) h
theorem Ex.rd (e : Ex m H H') (n : a ∉ m) (h : Rd H a u) : Rd H' a u := by
  rcases h with h | ⟨ob, h⟩
  · exact .inl (e a _ n h)
  · exact .inr ⟨ob, e a _ n h⟩
theorem Ex.sqL (e : Ex m H H') (n : a ∉ m) (h : SqL K H a xs) : SqL K H' a xs := by
  rcases h with h | h
  · exact .inl (e.rd n h)
  · exact .inr h
theorem Ex.sqT (e : Ex m H H') (n : a ∉ m) (h : SqT K H a xs) : SqT K H' a xs := by
  rcases h with h | h
  · exact .inl (e.rd n h)
  · exact .inr h
theorem Ex.free (e : Ex [] H H') (h : H' p = none) : H p = none := by
  cases q : H p with
  | none => rfl
  | some o => rw [e p o (by simp) q] at h; cases h
end
/-! ### expressions -/
def FldG (K : PySem.W.Frag) (f : Str) (x : V) (H : Hp) (Q : VK) : Prop := ∃ a C dx fs v, x = .ref a ∧ H a = some (.ins C dx fs) ∧ Cls K C ∧ NoAttr K C f ∧ fs.lookup f = some v ∧ Q v H
def PropG (C : Addr) (sp : Sp) (dvs : List V) (E : XK) (x : V) (H : Hp) (Q : VK) : Prop := ∃ a dx fs, x = .ref a ∧ H a = some (.ins C dx fs) ∧ sp (.ref a :: dvs) H Q E
def MakeG (C : Addr) (sp : Sp) (dvs : List V) (E : XK) (vs : List V) (H1 : Hp) (Q : VK) : Prop := ∀ x dx, H1 x = none → H1 dx = none → dx ≠ x → sp (.ref x :: (vs ++ dvs)) (upd (upd H1 dx (.own x)) x (.ins C dx [])) (fun v H2 => v = .non ∧ Q (.ref x) H2) E
def MethG (C : Addr) (m : Str) (sp : Sp) (dvs : List V) (E : XK) (t : TA) (σ : St) (x : V) (H1 : Hp) (Q : VK) : Prop := ∃ a dx fs, x = .ref a ∧ H1 a = some (.ins C dx fs) ∧ fs.lookup m = none ∧ t σ H1 fun vs H2 => sp (x :: (vs ++ dvs)) H2 Q E
def RevG (x : V) (H : Hp) (Q : VK) : Prop := ∃ l : List Nat, x = vS l ∧ l.length ≤ sizeLine ∧ Q (vS l.reverse) H
def SetG (K : PySem.W.Frag) (f : Str) (y x : V) (H : Hp) (R : Hp → Prop) : Prop := ∃ a C dx fs, x = .ref a ∧ H a = some (.ins C dx fs) ∧ Cls K C ∧ NoAttr K C f ∧ fs.length < 1000 ∧ R (upd H a (.ins C dx (putF f y fs)))
/-- a new object -/
def Al (o : HO) (n : Nat) (H : Hp) (Q : VK) : Prop := n ≤ sizeLine ∧ ∀ p, H p = none → Q (.ref p) (upd H p o)
section
variable {σ : St} {H : Hp} {Q : VK} {ta tb tc te : TE} {t u : TT} {tr : TA} {v x y : V} {r r' : R2} {i : Nat} {K : PySem.W.Frag} {R : Bool → Hp → Prop} {A B : Prop}
theorem s_var (h : σ[i]? = some (some v)) (k : Q v H) : tVar i σ H Q := ⟨v, h, k⟩
theorem s_c (k : Q v H) : tC v σ H Q := k
theorem s_cS {z : Str} {l : List Nat} (e : z = S l) (k : Q (vS l) H) : tC (.str z) σ H Q := by rw [e]; exact k
theorem s_op (k : ta σ H fun x H1 => tb σ H1 fun y H2 => r x y H2 Q) : tOp r ta tb σ H Q := k
theorem s_un {r : V → Hp → VK → Prop} (k : ta σ H fun x H1 => r x H1 Q) : tUn r ta σ H Q := k
theorem s_cb {r : List V → Hp → VK → Prop} (k : tr σ H fun vs H1 => r vs H1 Q) : tCB r tr σ H Q := k
theorem s_nil {R : List V → Hp → Prop} (k : R [] H) : tNil σ H R := k
theorem s_cons {R : List V → Hp → Prop} (k : ta σ H fun x H1 => tr σ H1 fun xs H2 => R (x :: xs) H2) : tCons ta tr σ H R := k
theorem s_call {sp : Sp} {dvs : List V} {E : XK} (k : tr σ H fun vs H1 => sp (vs ++ dvs) H1 Q E) : tCall sp dvs E tr σ H Q := k
theorem s_tup (k : tr σ H fun xs H1 => Al (.tup xs) xs.length H1 Q) : tTup tr σ H Q := k
theorem s_lst (k : tr σ H fun xs H1 => Al (.lst xs) xs.length H1 Q) : tLst tr σ H Q := k
theorem s_alloc {n : Nat} {o : HO} (h : n ≤ sizeLine) (k : ∀ p H2, H p = none → Ex [] H H2 → H2 p = some o → Q (.ref p) H2) : Al o n H Q :=
  ⟨h, fun p hp => k p _ hp (Ex.new hp) upd_same⟩
theorem s_new {o : HO} (k : ∀ p H2, H p = none → Ex [] H H2 → H2 p = some o → Q (.ref p) H2) : ∀ p, H p = none → Q (.ref p) (upd H p o) :=
  fun p hp => k p _ hp (Ex.new hp) upd_same
theorem s_not (k : t σ H fun c H1 => R (!c) H1) : tNot t σ H R := k
theorem s_and (k : t σ H fun c H1 => if c = true then u σ H1 R else R false H1) : tAnd t u σ H R := k
theorem s_or (k : t σ H fun c H1 => if c = true then R true H1 else u σ H1 R) : tOr t u σ H R := k
theorem s_test (k : te σ H fun x H' => ∃ k, x = .bl k ∧ R k H') : tTest te σ H R := k
theorem s_tB (k : te σ H fun x H' => ∃ k, x = .bl k ∧ R k H') : tB te σ H R := k
theorem s_blQ {b : Bool} {P : Bool → Prop} (k : P b) : ∃ c, V.bl b = .bl c ∧ P c := ⟨b, rfl, k⟩
theorem s_andV (k : ta σ H fun x H1 => ∃ c, x = .bl c ∧ if c = true then tb σ H1 Q else Q (.bl false) H1) : tAndV ta tb σ H Q := k
theorem s_orV (k : ta σ H fun x H1 => ∃ c, x = .bl c ∧ if c = true then Q (.bl true) H1 else tb σ H1 Q) : tOrV ta tb σ H Q := k
theorem s_notV (k : ta σ H fun x H1 => ∃ c, x = .bl c ∧ Q (.bl (!c)) H1) : tNotV ta σ H Q := k
theorem s_ifE (k : t σ H fun c H1 => if c = true then ta σ H1 Q else tb σ H1 Q) : tIf t ta tb σ H Q := k
theorem s_yes (k : R true H) : tYes σ H R := k
theorem s_chain (k : ta σ H fun x H1 => tb σ H1 fun y H2 => r x y H2 fun z H3 => ∃ k, z = .bl k ∧ (if k = true then tc σ H3 fun w' H4 => r' y w' H4 Q else Q (.bl false) H3)) : tChain r r' ta tb tc σ H Q := k
theorem s_T {b : Bool} (h : b = true) (k : A) : if b = true then A else B := by rw [if_pos h]; exact k
theorem s_F {b : Bool} (h : b = false) (k : B) : if b = true then A else B := by rw [if_neg (by rw [h]; decide)]; exact k
theorem s_2 {b : Bool} (k1 : b = true → A) (k2 : b = false → B) : if b = true then A else B := by
  cases b with
  | true => exact s_T rfl (k1 rfl)
  | false => exact s_F rfl (k2 rfl)
theorem s_nT (k : B) : if (!true) = true then A else B := s_F rfl k
theorem s_nF (k : A) : if (!false) = true then A else B := s_T rfl k
theorem s_Td {P : Prop} [Decidable P] (h : P) (k : A) : if decide P = true then A else B := s_T (decide_eq_true h) k
theorem s_Fd {P : Prop} [Decidable P] (h : ¬ P) (k : B) : if decide P = true then A else B := s_F (decide_eq_false h) k
theorem s_nTd {P : Prop} [Decidable P] (h : ¬ P) (k : A) : if (!decide P) = true then A else B := s_T (by rw [decide_eq_false h]; rfl) k
theorem s_nFd {P : Prop} [Decidable P] (h : P) (k : B) : if (!decide P) = true then A else B := s_F (by rw [decide_eq_true h]; rfl) k
theorem s_nB {b : Bool} (h : b = true) (k : B) : if (!b) = true then A else B := s_F (by rw [h]; rfl) k
theorem s_nA {b : Bool} (h : b = false) (k : A) : if (!b) = true then A else B := s_T (by rw [h]; rfl) k
/-! operators -/
theorem s_addI {i j : Int} (k : Q (.int (i + j)) H) : rAddI (.int i) (.int j) H Q := ⟨i, j, rfl, rfl, k⟩
theorem s_subI {i j : Int} (k : Q (.int (i - j)) H) : rSubI (.int i) (.int j) H Q := ⟨i, j, rfl, rfl, k⟩
theorem s_mulI {i j : Int} (h : CMul i j) (k : Q (.int (i * j)) H) : rMulI (.int i) (.int j) H Q := ⟨i, j, rfl, rfl, h, k⟩
theorem s_divI {i j : Int} (h : CDiv i j) (k : Q (.int (i / j)) H) : rDivI (.int i) (.int j) H Q := ⟨i, j, rfl, rfl, h, k⟩
theorem s_modI {i j : Int} (h : 0 < j) (k : Q (.int (i % j)) H) : rModI (.int i) (.int j) H Q := ⟨i, j, rfl, rfl, h, k⟩
theorem s_powI {i j : Int} (h : CPow i j) (k : Q (.int (i ^ j.toNat)) H) : rPowI (.int i) (.int j) H Q := ⟨i, j, rfl, rfl, h, k⟩
theorem s_ltI {i j : Int} (k : Q (.bl (decide (i < j))) H) : rLtI (.int i) (.int j) H Q := ⟨i, j, rfl, rfl, k⟩
theorem s_leI {i j : Int} (k : Q (.bl (decide (i ≤ j))) H) : rLeI (.int i) (.int j) H Q := ⟨i, j, rfl, rfl, k⟩
theorem s_gtI {i j : Int} (k : Q (.bl (decide (j < i))) H) : rGtI (.int i) (.int j) H Q := ⟨i, j, rfl, rfl, k⟩
theorem s_geI {i j : Int} (k : Q (.bl (decide (j ≤ i))) H) : rGeI (.int i) (.int j) H Q := ⟨i, j, rfl, rfl, k⟩
theorem s_negI {i : Int} (k : Q (.int (-i)) H) : rNegI (.int i) H Q := ⟨i, rfl, k⟩
theorem s_absI {i : Int} (k : Q (.int (if i < 0 then -i else i)) H) : rAbsI [.int i] H Q := ⟨i, rfl, k⟩
theorem s_intI {i : Int} (k : Q (.int i) H) : rIntI [.int i] H Q := .inl ⟨i, rfl, k⟩
theorem s_min2 {i j : Int} (k : Q (.int (if j < i then j else i)) H) : rMin2 [.int i, .int j] H Q := ⟨i, j, rfl, k⟩
theorem s_max2 {i j : Int} (k : Q (.int (if j > i then j else i)) H) : rMax2 [.int i, .int j] H Q := ⟨i, j, rfl, k⟩
theorem s_addS {a b : List Nat} (h : a.length + b.length ≤ sizeLine) (k : Q (vS (a ++ b)) H) : rAddS (vS a) (vS b) H Q := ⟨a, b, rfl, rfl, h, k⟩
theorem s_eqI {i j : Int} (k : Q (.bl (decide (i = j))) H) : rEq (.int i) (.int j) H Q := ⟨rfl, by
  have : decide (V.int i = V.int j) = decide (i = j) := by simp
  rw [this]; exact k⟩
theorem s_neI {i j : Int} (k : Q (.bl (!decide (i = j))) H) : rNe (.int i) (.int j) H Q := ⟨rfl, by
  have : decide (V.int i = V.int j) = decide (i = j) := by simp
  rw [this]; exact k⟩
theorem vS_eq {a b : List Nat} : (vS a = vS b) ↔ a = b := ⟨fun h => S_inj (V.str.inj h), fun h => by rw [h]⟩
theorem s_eqS {a b : List Nat} (k : Q (.bl (decide (a = b))) H) : rEq (vS a) (vS b) H Q := ⟨rfl, by
  have : decide (V.str (S a) = V.str (S b)) = decide (a = b) := by simp only [show (V.str (S a) = V.str (S b)) ↔ a = b from vS_eq]
  rw [this]; exact k⟩
theorem s_neS {a b : List Nat} (k : Q (.bl (!decide (a = b))) H) : rNe (vS a) (vS b) H Q := ⟨rfl, by
  have : decide (V.str (S a) = V.str (S b)) = decide (a = b) := by simp only [show (V.str (S a) = V.str (S b)) ↔ a = b from vS_eq]
  rw [this]; exact k⟩
theorem s_inSg {c : Nat} {l : List Nat} (k : Q (.bl (decide (c ∈ l))) H) : rInSg (vS [c]) (vS l) H Q := ⟨c, S l, rfl, rfl, by rw [S_cps]; exact k⟩
theorem s_notInSg {c : Nat} {l : List Nat} (k : Q (.bl (!decide (c ∈ l))) H) : rNotInSg (vS [c]) (vS l) H Q := ⟨c, S l, rfl, rfl, by rw [S_cps]; exact k⟩
theorem s_lenS {l : List Nat} (h : l.length ≤ sizeLine) (k : Q (.int l.length) H) : rLenV K [vS l] H Q := ⟨vS l, l.length, rfl, ⟨by rw [S_len]; exact h, (S_len l).symm⟩, k⟩
theorem s_lenL {a : Addr} {xs : List V} (h : SqL K H a xs) (k : Q (.int xs.length) H) : rLenV K [.ref a] H Q := ⟨_, _, rfl, .inl ⟨xs, h, rfl⟩, k⟩
theorem s_lenT {a : Addr} {xs : List V} (h : SqT K H a xs) (k : Q (.int xs.length) H) : rLenV K [.ref a] H Q := ⟨_, _, rfl, .inr ⟨xs, h, rfl⟩, k⟩
theorem s_isiII {i : Int} (k : Q (.bl true) H) : rIsi K [.int i, .ty "int"] H Q := ⟨_, _, _, _, _, rfl, .ty _, .base (.int _), kit_ty (by decide +kernel), k⟩
theorem s_isiIB {i : Int} (k : Q (.bl false) H) : rIsi K [.int i, .ty "bool"] H Q := ⟨_, _, _, _, _, rfl, .ty _, .base (.int _), kit_ty (by decide +kernel), k⟩
theorem s_isiSS {z : Str} (k : Q (.bl true) H) : rIsi K [.str z, .ty "str"] H Q := ⟨_, _, _, _, _, rfl, .ty _, .base (.str _), kit_ty (by decide +kernel), k⟩
theorem s_all {a : Addr} {bs : List Bool} (h : SqL K H a (bs.map V.bl)) (k : Q (.bl (bs.all id)) H) : rAll K [.ref a] H Q := ⟨a, bs, rfl, h, k⟩
theorem s_cat {a b : Addr} {xs ys : List V} (h1 : H a = some (.lst xs)) (h2 : H b = some (.lst ys)) (hl : xs.length + ys.length ≤ sizeLine) (k : ∀ p H2, H p = none → Ex [] H H2 → H2 p = some (.lst (xs ++ ys)) → Q (.ref p) H2) : rCat (.ref a) (.ref b) H Q := ⟨a, b, xs, ys, rfl, rfl, h1, h2, hl, s_new k⟩
theorem s_divmod {i j : Int} (h : CDivP i j) (k : ∀ p H2, H p = none → Ex [] H H2 → H2 p = some (.tup [.int (i / j), .int (i % j)]) → Q (.ref p) H2) : rDivmod [.int i, .int j] H Q := ⟨i, j, rfl, h, s_new k⟩
theorem s_ixL {a : Addr} {xs : List V} {n : Int} (h : SqL K H a xs) (hi : atI xs n = some v) (k : Q v H) : rIxL K (.ref a) (.int n) H Q := ⟨a, xs, n, v, rfl, rfl, h, hi, k⟩
theorem s_ixT {a : Addr} {xs : List V} {n : Int} (h : SqT K H a xs) (hi : atI xs n = some v) (k : Q v H) : rIxT K (.ref a) (.int n) H Q := ⟨a, xs, n, v, rfl, rfl, h, hi, k⟩
theorem s_ixS {l : List Nat} {n : Int} {c : Nat} (hl : l.length ≤ sizeLine) (hi : atI l n = some c) (k : Q (vS [c]) H) : rIxS (vS l) (.int n) H Q := ⟨S l, n, c, rfl, rfl, by rw [S_len]; exact hl, by rw [S_cps]; exact hi, k⟩
theorem s_revS (k : te σ H fun x H1 => RevG x H1 Q) : tRevS te σ H Q := k
theorem s_revS1 {l : List Nat} (h : l.length ≤ sizeLine) (k : Q (vS l.reverse) H) : RevG (vS l) H Q := ⟨l, rfl, h, k⟩
/-! slices -/
def cut (l : List Nat) (lo hi : Option Int) : List Nat := (l.drop (HT.sIx l.length 0 lo)).take (HT.sIx l.length l.length hi - HT.sIx l.length 0 lo)
theorem s_sl {r : V → Option Int → Option Int → Hp → VK → Prop} {tl th : TO} (k : te σ H fun x H1 => tl σ H1 fun l H2 => th σ H2 fun u H3 => r x l u H3 Q) : tSl r te tl th σ H Q := k
theorem s_noPart {R : Option Int → Hp → Prop} (k : R none H) : tNoPart σ H R := k
theorem s_part {R : Option Int → Hp → Prop} (k : te σ H fun x H1 => ∃ i, x = .int i ∧ R (some i) H1) : tPart te σ H R := k
theorem s_int1 {n : Int} {P : Int → Prop} (k : P n) : ∃ i, V.int n = .int i ∧ P i := ⟨n, rfl, k⟩
theorem s_slS {l : List Nat} {lo hi : Option Int} (h : l.length ≤ sizeLine) (k : Q (vS (cut l lo hi)) H) : rSlS (vS l) lo hi H Q := ⟨S l, rfl, by rw [S_len]; exact h, by
  have e : cutS (S l) lo hi = S (cut l lo hi) := by
    unfold cutS cut
    rw [S_len, S_cps]
    rfl
  rw [e]
  exact k⟩
theorem s_slL {a : Addr} {xs : List V} {lo hi : Option Int} (h : SqL K H a xs) (k : ∀ p H2, H p = none → Ex [] H H2 → H2 p = some (.lst (cutV xs lo hi)) → Q (.ref p) H2) : rSlL K (.ref a) lo hi H Q := ⟨a, xs, rfl, h, s_new k⟩
theorem cut_from {l : List Nat} {n : Int} (h0 : 0 ≤ n) : cut l (some n) none = l.drop n.toNat := by
  unfold cut
  have e : HT.sIx l.length 0 (some n) = min n.toNat l.length := by
    show (if n < 0 then (n + (l.length : Int)).toNat else min n.toNat l.length) = _
    rw [if_neg (by omega)]
  have e2 : HT.sIx l.length l.length none = l.length := rfl
  rw [e, e2]
  rcases Nat.le_total n.toNat l.length with h | h
  · rw [Nat.min_eq_left h, List.take_of_length_le (by simp)]
  · rw [Nat.min_eq_right h, List.drop_of_length_le h]
    simp
theorem cut_to {l : List Nat} {n : Int} (h0 : 0 ≤ n) : cut l none (some n) = l.take n.toNat := by
  unfold cut
  have e : HT.sIx l.length l.length (some n) = min n.toNat l.length := by
    show (if n < 0 then (n + (l.length : Int)).toNat else min n.toNat l.length) = _
    rw [if_neg (by omega)]
  have e2 : HT.sIx l.length 0 none = 0 := rfl
  rw [e, e2]
  rcases Nat.le_total n.toNat l.length with h | h
  · rw [Nat.min_eq_left h]; simp
  · rw [Nat.min_eq_right h, List.take_of_length_le h]; simp
/-! join -/
theorem s_M1 {r : V → List V → Hp → VK → Prop} (k : ta σ H fun x H1 => (∃ a, x = .str a) ∧ te σ H1 fun y H2 => r x [y] H2 Q) : tM1 r ta te σ H Q := k
theorem s_isStr {z : Str} {B : Prop} (k : B) : (∃ a, V.str z = .str a) ∧ B := ⟨⟨z, rfl⟩, k⟩
theorem joinL_nil : ∀ ls : List (List Nat), TL.joinL [] ls = ls.flatten
  | [] => rfl
  | [p] => by simp [TL.joinL]
  | p :: q :: r => by
    show p ++ ([] ++ TL.joinL [] (q :: r)) = _
    rw [joinL_nil (q :: r)]
    simp
theorem join_empty (ls : List (List Nat)) : Txt.join (S []) (ls.map S) = S ls.flatten := by
  rw [TL.join_eq, S_of (Str.join (S []) (ls.map S))]
  have := TL.tl_join (S []) (ls.map S)
  unfold TL.tl at this
  rw [this, List.map_map]
  have e : ls.map ((fun x : Str => x.cps.toList) ∘ S) = ls := by
    conv => rhs; rw [← List.map_id ls]
    apply List.map_congr_left
    intro z _
    exact S_cps z
  show S (TL.joinL (S []).cps.toList (ls.map ((fun x : Str => x.cps.toList) ∘ S))) = _
  rw [e, S_cps, joinL_nil]
theorem s_join0 {a : Addr} {ls : List (List Nat)} (h : SqL K H a (ls.map vS)) (hz : ls.flatten.length ≤ 16777216) (k : Q (vS ls.flatten) H) : rJoin K (vS []) [.ref a] H Q := by
  refine ⟨S [], a, ls.map S, rfl, rfl, .inl ?_, ?_, ?_⟩
  · rw [List.map_map]; exact h
  · rw [List.map_map]
    have e1 : (ls.map ((fun x : Str => x.length) ∘ S)) = ls.map List.length := by
      apply List.map_congr_left
      intro z _
      exact S_len z
    rw [e1, S_len]
    simpa using hz
  · rw [join_empty]; exact k
/-! instances -/
theorem s_fldE {f : Str} (k : ta σ H fun x H1 => FldG K f x H1 Q) : tFld K ta f σ H Q := k
theorem s_propE {C : Addr} {sp : Sp} {dvs : List V} {E : XK} (k : ta σ H fun x H1 => PropG C sp dvs E x H1 Q) : tProp C sp dvs E ta σ H Q := k
theorem s_makeE {C : Addr} {sp : Sp} {dvs : List V} {E : XK} (k : tr σ H fun vs H1 => MakeG C sp dvs E vs H1 Q) : tMake C sp dvs E tr σ H Q := k
theorem s_methE {C : Addr} {m : Str} {sp : Sp} {dvs : List V} {E : XK} (k : ta σ H fun x H1 => MethG C m sp dvs E tr σ x H1 Q) : tMeth C m sp dvs E ta tr σ H Q := k
end
theorem s_setL {a : Addr} {xs : List V} {j : Nat} {v : V} {H : Hp} {R : Hp → Prop} {n : Int} (h : H a = some (.lst xs)) (hj : ixN xs.length n = some j) (k : ∀ H2, Ex [a] H H2 → H2 a = some (.lst (xs.set j v)) → R H2) : rSetL (.ref a) (.int n) v H R := ⟨a, xs, n, j, rfl, rfl, h, hj, k _ (Ex.put (by simp)) upd_same⟩
theorem s_gSub {ta tb : TE} {t : TSet} {v : V} {σ : St} {H : Hp} {R : St → Hp → Prop} (k : ta σ H fun o H1 => tb σ H1 fun i H2 => t o i v H2 fun H3 => R σ H3) : gSub ta tb t v σ H R := k
theorem s_gTup {K : PySem.W.Frag} {a : Addr} {xs : List V} {n : Nat} {t : TGs} {σ : St} {H : Hp} {R : St → Hp → Prop} (h : SqT K H a xs) (hn : xs.length = n) (k : t xs σ H R) : gTup K n t (.ref a) σ H R := ⟨a, xs, rfl, h, hn, k⟩
theorem s_gLst {K : PySem.W.Frag} {a : Addr} {xs : List V} {n : Nat} {t : TGs} {σ : St} {H : Hp} {R : St → Hp → Prop} (h : SqL K H a xs) (hn : xs.length = n) (k : t xs σ H R) : gLst K n t (.ref a) σ H R := ⟨a, xs, rfl, h, hn, k⟩
theorem s_gCons {t : TG} {u : TGs} {v : V} {r : List V} {σ : St} {H : Hp} {R : St → Hp → Prop} (k : t v σ H fun σ' H' => u r σ' H' R) : gCons t u (v :: r) σ H R := ⟨v, r, rfl, k⟩
theorem s_gNil {σ : St} {H : Hp} {R : St → Hp → Prop} (k : R σ H) : gNil [] σ H R := ⟨rfl, k⟩
/-! ### statements -/
section
variable {n b c : St → Hp → Prop} {rt : VK} {σ : St} {H : Hp} {te : TE} {tt : TT} {t u : TS} {i : Nat} {K : PySem.W.Frag}
theorem s_seq (k : t ⟨u ⟨n, rt, b, c⟩, rt, b, c⟩ σ H) : tSeq t u ⟨n, rt, b, c⟩ σ H := k
theorem s_sfld {ta tv : TE} {f : Str} (k : tv σ H fun y H1 => ta σ H1 fun x H2 => SetG K f y x H2 (n σ)) : sFld K ta tv f ⟨n, rt, b, c⟩ σ H := k
theorem s_next (k : n σ H) : tNext ⟨n, rt, b, c⟩ σ H := k
theorem s_asg {g : TG} (k : te σ H fun x H1 => g x σ H1 n) : tAsg te g ⟨n, rt, b, c⟩ σ H := k
theorem s_gName {v : V} {R : St → Hp → Prop} (k : R (σ.set i (some v)) H) : gName i v σ H R := k
theorem s_ret (k : te σ H rt) : tRet te ⟨n, rt, b, c⟩ σ H := k
theorem s_drop (k : te σ H fun _ H1 => n σ H1) : tDrop te ⟨n, rt, b, c⟩ σ H := k
theorem s_ifS (k : tt σ H fun q H1 => if q = true then t ⟨n, rt, b, c⟩ σ H1 else u ⟨n, rt, b, c⟩ σ H1) : tIfS tt t u ⟨n, rt, b, c⟩ σ H := k
theorem s_par {i j : Nat} {ta : TA} (k : ta σ H fun vs H1 => ∃ v w, vs = [v, w] ∧ n ((σ.set i (some v)).set j (some w)) H1) : tPar i j ta ⟨n, rt, b, c⟩ σ H := k
theorem s_pair {v w : V} {P : V → V → Prop} (k : P v w) : ∃ v' w', [v, w] = [v', w'] ∧ P v' w' := ⟨v, w, rfl, k⟩
end
end WB
namespace WB
open PySem PySem.Spec PyProof.Rows L2
theorem wipe1 (σ : St) (j : Nat) (x : Option V) : wipe ((wipe σ [j]).set j x) [j] = wipe σ [j] := by
  show ((σ.set j none).set j x).set j none = σ.set j none
  rw [List.set_set, List.set_set]
/-- what is asked of a comprehension's turns -/
def LcW (J : It) (g : TG) (tt : TT) (te : TE) (vs : List Nat) (σ : St) (H1 : Hp) (Q : VK) : Prop := ∀ D, H1 D = none → ∃ W : Nat → Nat → Hp → Prop, (∃ m, W 0 m (upd H1 D (.lst []))) ∧ ∀ i m H, W i m H →
  (J.stop i H ∧ Q (.ref D) H) ∨ (J.go i H ∧ ∃ Nx : Hp → Prop, (∀ H', Nx H' → ∃ m', m' < m ∧ W (i + 1) m' H') ∧ ∀ x H', J.yld i H x H' → g x (wipe σ vs) H' fun σ2 H2 => wipe σ2 vs = wipe σ vs ∧ tt σ2 H2 fun b H3 =>
    if b = true then te σ2 H3 fun y H4 => ∃ acc, H4 D = some (.lst acc) ∧ acc.length < sizeLine ∧ Nx (upd H4 D (.lst (acc ++ [y]))) else Nx H3)
theorem s_lc {wi : TI} {g : TG} {tt : TT} {te : TE} {vs : List Nat} {σ : St} {H : Hp} {Q : VK} (k : wi σ H fun J H1 => LcW J g tt te vs σ H1 Q) : tLc wi g tt te vs σ H Q := k
theorem s_rng1 {ta : TA} {σ : St} {H : Hp} {R : It → Hp → Prop} (k : ta σ H fun vs H1 => ∃ j : Int, vs = [.int j] ∧ -(2 ^ 62) ≤ j ∧ j < 2 ^ 62 ∧ R (Itr 0 j.toNat) H1) : iRng1 ta σ H R := k
theorem s_rng1i {j : Int} {C : Int → Prop} (h : -1000000 ≤ j ∧ j ≤ 1000000) (k : C j) : ∃ j' : Int, [V.int j] = [.int j'] ∧ -(2 ^ 62) ≤ j' ∧ j' < 2 ^ 62 ∧ C j' := ⟨j, rfl, by omega, by omega, k⟩
theorem s_rng2 {ta : TA} {σ : St} {H : Hp} {R : It → Hp → Prop} (k : ta σ H fun vs H1 => ∃ i j : Int, vs = [.int i, .int j] ∧ (-(2 ^ 62) ≤ i ∧ i < 2 ^ 62 ∧ -(2 ^ 62) ≤ j ∧ j < 2 ^ 62) ∧ R (Itr i (j - i).toNat) H1) : iRng2 ta σ H R := k
theorem s_rng2i {i j : Int} {C : Int → Int → Prop} (h : -1000000 ≤ i ∧ i ≤ 1000000 ∧ -1000000 ≤ j ∧ j ≤ 1000000) (k : C i j) : ∃ i' j' : Int, [V.int i, V.int j] = [.int i', .int j'] ∧ (-(2 ^ 62) ≤ i' ∧ i' < 2 ^ 62 ∧ -(2 ^ 62) ≤ j' ∧ j' < 2 ^ 62) ∧ C i' j' := ⟨i, j, rfl, by omega, k⟩
theorem s_iStr {te : TE} {σ : St} {H : Hp} {R : It → Hp → Prop} (k : te σ H fun v H1 => ∃ x, v = .str x ∧ R (Its x) H1) : iStr te σ H R := k
theorem s_iStrS {l : List Nat} {C : Str → Prop} (k : C (S l)) : ∃ x, vS l = .str x ∧ C x := ⟨_, rfl, k⟩
theorem s_iList {K : PySem.W.Frag} {te : TE} {σ : St} {H : Hp} {R : It → Hp → Prop} (k : te σ H fun x H1 => ∃ a, x = .ref a ∧ (∃ xs, SqL K H1 a xs) ∧ R (Itl K a) H1) : iList K te σ H R := k
theorem s_iListA {K : PySem.W.Frag} {a : Addr} {xs : List V} {H : Hp} {C : Addr → Prop} (h : SqL K H a xs) (k : C a) : ∃ b, V.ref a = .ref b ∧ (∃ xs, SqL K H b xs) ∧ C b := ⟨a, rfl, ⟨xs, h⟩, k⟩
theorem s_iTup {K : PySem.W.Frag} {te : TE} {σ : St} {H : Hp} {R : It → Hp → Prop} (k : te σ H fun x H1 => ∃ a, x = .ref a ∧ (∃ xs, SqT K H1 a xs) ∧ R (Itt K a) H1) : iTup K te σ H R := k
theorem s_iTupA {K : PySem.W.Frag} {a : Addr} {xs : List V} {H : Hp} {C : Addr → Prop} (h : SqT K H a xs) (k : C a) : ∃ b, V.ref a = .ref b ∧ (∃ xs, SqT K H b xs) ∧ C b := ⟨a, rfl, ⟨xs, h⟩, k⟩
/-- a comprehension: m what may change, R what is known of it, Acc what is known of the list so far -/
theorem lc_run {J : It} {n : Nat} {G : Hp → Prop} {Y : Nat → Hp → V → Hp → Prop} {g : TG} {tt : TT} {te : TE} {vs : List Nat} {σ : St} {H : Hp} {Q : VK} (w : Walk J n G Y) (hn : n ≤ 100000)
    (m : List Addr) (R : Hp → Prop) (Acc : Nat → List V → Hp → Prop) (hm : ∀ a ∈ m, H a ≠ none) (r0 : R H) (a0 : Acc 0 [] H)
    (rU : ∀ H1 D o, D ∉ m → R H1 → R (upd H1 D o)) (aU : ∀ i acc H1 D o, (H1 D = none ∨ ∃ l, H1 D = some (.lst l)) → Acc i acc H1 → Acc i acc (upd H1 D (.lst o)))
    (hG : ∀ H1, Ex m H H1 → G H1)
    (step : ∀ (i : Nat) (acc : List V) (x : V) (H1 H2 : Hp) (C1 : VK) (C0 : Hp → Prop), i < n → Ex m H H1 → R H1 → Acc i acc H1 → Y i H1 x H2 →
      (∀ y H5, Ex m H1 H5 → R H5 → Acc (i + 1) (acc ++ [y]) H5 → C1 y H5) → (∀ H4, Ex m H1 H4 → R H4 → Acc (i + 1) acc H4 → C0 H4) →
      g x (wipe σ vs) H2 fun σ2 H3 => wipe σ2 vs = wipe σ vs ∧ tt σ2 H3 fun b H4 => if b = true then te σ2 H4 C1 else C0 H4)
    (k : ∀ D H' ys, H D = none → Ex m H H' → R H' → H' D = some (.lst ys) → ys.length ≤ n → Acc n ys H' → Q (.ref D) H') : LcW J g tt te vs σ H Q := by
  intro D hD
  have nD : D ∉ m := fun z => hm D z hD
  refine lc_it w (fun i H1 => Ex m H H1 ∧ R H1 ∧ ∃ acc, H1 D = some (.lst acc) ∧ acc.length ≤ i ∧ Acc i acc H1) ⟨Ex.new hD, rU _ _ _ nD r0, [], upd_same, Nat.le_refl _, aU _ _ _ _ _ (.inl hD) a0⟩ (fun i H1 _ h => hG H1 h.1) ?_ ?_
  · rintro i x H1 H2 hi ⟨e, r, acc, hd, hl, ha⟩ hy
    refine step i acc x H1 H2 _ _ hi e r ha hy (fun y H5 e5 r5 a5 => ?_) (fun H4 e4 r4 a4 => ?_)
    · have hd5 : H5 D = some (.lst acc) := e5 D _ nD hd
      refine ⟨acc, hd5, Nat.lt_of_le_of_lt (Nat.le_trans hl (Nat.le_trans (Nat.le_of_lt hi) hn)) (by decide), ?_, rU _ _ _ nD r5, acc ++ [y], upd_same, by rw [List.length_append]; simp; omega, aU _ _ _ _ _ (.inr ⟨acc, hd5⟩) a5⟩
      intro b o nb hb
      rw [upd_ne (ne_of_none hb hD)]
      exact e5 b o nb (e b o nb hb)
    · exact ⟨e.trans e4, r4, acc, e4 D _ nD hd, by omega, a4⟩
  · rintro H1 ⟨e, r, acc, hd, hl, ha⟩
    exact k D H1 acc hD e r hd hl ha
/-- over range, nothing changes: a list of values by the turn -/
theorem lc_mapR {n j : Nat} {lo : Int} {te : TE} {σ : St} {H : Hp} {Q : VK} (hn : n ≤ 100000) (val : Nat → V)
    (h : ∀ (i : Nat) (H1 : Hp) (C : VK), i < n → Ex [] H H1 → (∀ H2, Ex [] H1 H2 → C (val i) H2) → te ((wipe σ [j]).set j (some (.int (lo + i)))) H1 C)
    (k : ∀ D H', H D = none → Ex [] H H' → H' D = some (.lst ((List.range n).map val)) → Q (.ref D) H') : LcW (Itr lo n) (gName j) tYes te [j] σ H Q := by
  refine lc_run walk_range hn [] (fun _ => True) (fun i acc _ => acc = (List.range i).map val) (by simp) trivial rfl (fun _ _ _ _ _ => trivial) (fun _ _ _ _ _ _ h => h) (fun _ _ => trivial) ?_ ?_
  · rintro i acc x H1 H2 C1 C0 hi e _ rfl ⟨rfl, rfl⟩ k1 k0
    refine ⟨wipe1 _ _ _, ?_⟩
    refine s_yes ?_
    refine s_T rfl ?_
    refine (h i H2 C1 hi e fun H5 e5 => k1 _ H5 e5 trivial ?_)
    rw [List.range_succ, List.map_append]
    rfl
  · rintro D H' ys hD e _ hd _ rfl
    exact k D H' hD e hd
/-- over a list, nothing changes -/
theorem lc_mapL {K : PySem.W.Frag} {a : Addr} {xs : List V} {j : Nat} {te : TE} {σ : St} {H : Hp} {Q : VK} (hq : SqL K H a xs) (hn : xs.length ≤ 100000) (val : V → V)
    (h : ∀ (i : Nat) (x : V) (H1 : Hp) (C : VK), xs[i]? = some x → Ex [] H H1 → (∀ H2, Ex [] H1 H2 → C (val x) H2) → te ((wipe σ [j]).set j (some x)) H1 C)
    (k : ∀ D H', H D = none → Ex [] H H' → H' D = some (.lst (xs.map val)) → Q (.ref D) H') : LcW (Itl K a) (gName j) tYes te [j] σ H Q := by
  refine lc_run walk_list hn [] (fun _ => True) (fun i acc _ => acc = (xs.take i).map val) (by simp) trivial (by simp) (fun _ _ _ _ _ => trivial) (fun _ _ _ _ _ _ h => h) (fun H1 e => e.sqL (by simp) hq) ?_ ?_
  · rintro i acc x H1 H2 C1 C0 hi e _ rfl ⟨rfl, hx⟩ k1 k0
    refine ⟨wipe1 _ _ _, ?_⟩
    refine s_yes ?_
    refine s_T rfl ?_
    refine (h i x H2 C1 hx e fun H5 e5 => k1 _ H5 e5 trivial ?_)
    rw [List.take_add_one, hx, List.map_append]
    rfl
  · rintro D H' ys hD e _ hd _ rfl
    rw [List.take_length] at hd
    exact k D H' hD e hd
/-- over a text's signs, nothing changes: those that pass, each by its value -/
theorem lc_mapS {l : List Nat} {j : Nat} {tt : TT} {te : TE} {σ : St} {H : Hp} {Q : VK} (hn : l.length ≤ 100000) (p : Nat → Bool) (val : Nat → V)
    (h : ∀ (c : Nat) (H1 : Hp) (C1 : VK) (C0 : Hp → Prop), c ∈ l → Ex [] H H1 → (∀ H2, Ex [] H1 H2 → p c = true → C1 (val c) H2) → (∀ H2, Ex [] H1 H2 → p c = false → C0 H2) →
      tt ((wipe σ [j]).set j (some (vS [c]))) H1 fun b H2 => if b = true then te ((wipe σ [j]).set j (some (vS [c]))) H2 C1 else C0 H2)
    (k : ∀ D H', H D = none → Ex [] H H' → H' D = some (.lst ((l.filter p).map val)) → Q (.ref D) H') : LcW (Its (S l)) (gName j) tt te [j] σ H Q := by
  have hs : (S l).cps.size = l.length := by simp [S]
  have w := walk_str (z := S l)
  rw [hs] at w
  refine lc_run w hn [] (fun _ => True) (fun i acc _ => acc = ((l.take i).filter p).map val) (by simp) trivial (by simp) (fun _ _ _ _ _ => trivial) (fun _ _ _ _ _ _ h => h) (fun _ _ => trivial) ?_ ?_
  · rintro i acc x H1 H2 C1 C0 hi e _ rfl ⟨rfl, c, hc, rfl⟩ k1 k0
    have hc : l[i]? = some c := by simpa [S] using hc
    refine ⟨wipe1 _ _ _, ?_⟩
    refine h c H2 C1 C0 (List.mem_of_getElem? hc) e (fun H5 e5 hp => k1 _ H5 e5 trivial ?_) (fun H5 e5 hp => k0 H5 e5 trivial ?_)
    · rw [List.take_add_one, hc, List.filter_append, List.map_append]
      simp [hp]
    · rw [List.take_add_one, hc, List.filter_append, List.map_append]
      simp [hp]
  · rintro D H' ys hD e _ hd _ rfl
    rw [← hs] at hd
    have : l.take (S l).cps.size = l := by rw [hs]; exact List.take_length
    rw [this] at hd
    exact k D H' hD e hd
/-- for: n turns -/
def ForW (J : It) (g : TG) (tb : TS) (D : Ends) (σ : St) (H : Hp) : Prop := ∃ W : Nat → Nat → St → Hp → Prop, (∃ m, W 0 m σ H) ∧ ∀ i m σ H, W i m σ H →
  (J.stop i H ∧ D.nx σ H) ∨ (J.go i H ∧ ∃ N : St → Hp → Prop, (∀ σ' H', N σ' H' → ∃ m', m' < m ∧ W (i + 1) m' σ' H') ∧ ∀ x H', J.yld i H x H' → g x σ H' fun σ2 H2 => tb { D with nx := N, ct := N, bk := D.nx } σ2 H2)
theorem s_for {wi : TI} {g : TG} {tb : TS} {n b c : St → Hp → Prop} {rt : VK} {σ : St} {H : Hp} (k : wi σ H fun J H1 => ForW J g tb ⟨n, rt, b, c⟩ σ H1) : tFor wi g tb ⟨n, rt, b, c⟩ σ H := k
theorem for_run {J : It} {m : Nat} {G : Hp → Prop} {Y : Nat → Hp → V → Hp → Prop} {g : TG} {tb : TS} {n b c : St → Hp → Prop} {rt : VK} {σ : St} {H : Hp} (w : Walk J m G Y) (Pv : Nat → St → Hp → Prop) (h0 : Pv 0 σ H) (hG : ∀ i σ H, i ≤ m → Pv i σ H → G H)
    (hs : ∀ i x σ H H', i < m → Pv i σ H → Y i H x H' → g x σ H' fun σ2 H2 => tb ⟨Pv (i + 1), rt, n, Pv (i + 1)⟩ σ2 H2) (hd : ∀ σ H, Pv m σ H → n σ H) : ForW J g tb ⟨n, rt, b, c⟩ σ H :=
  for_it (D := ⟨n, rt, b, c⟩) w Pv h0 hG hs hd
theorem for_rng {lo : Int} {m : Nat} {g : TG} {tb : TS} {n b c : St → Hp → Prop} {rt : VK} {σ : St} {H : Hp} (Pv : Nat → St → Hp → Prop) (h0 : Pv 0 σ H)
    (hs : ∀ (i : Nat) σ H, i < m → Pv i σ H → g (.int (lo + i)) σ H fun σ2 H2 => tb ⟨Pv (i + 1), rt, n, Pv (i + 1)⟩ σ2 H2) (hd : ∀ σ H, Pv m σ H → n σ H) : ForW (Itr lo m) g tb ⟨n, rt, b, c⟩ σ H := by
  refine for_run walk_range Pv h0 (fun _ _ _ _ _ => trivial) ?_ hd
  rintro i x σ H H' hi hp ⟨rfl, rfl⟩
  exact hs i σ _ hi hp
theorem atI_of {α : Type} {xs : List α} {n : Int} {v : α} (h0 : 0 ≤ n) (h : xs[n.toNat]? = some v) : atI xs n = some v := by
  have h1 : n.toNat < xs.length := (List.getElem?_eq_some_iff.mp h).1
  unfold atI ixN
  rw [if_pos h0, if_pos (by omega)]
  exact h
theorem mem_cutV {xs : List V} {lo hi : Option Int} {x : V} (h : x ∈ cutV xs lo hi) : x ∈ xs := List.mem_of_mem_drop (List.mem_of_mem_take h)
end WB
namespace WB
open PySem PySem.Spec PyProof.Rows L2
/-! ### words and their turnings -/
def rot (l : List Nat) (i : Nat) : List Nat := l.drop i ++ l.take i
def rots (l : List Nat) : List (List Nat) := (List.range l.length).map (rot l)
def leastT (l : List Nat) : List Nat := match rots l with
  | [] => []
  | x :: xs => minL x xs
abbrev LET : List Nat := [97, 98, 99, 100, 101, 102, 103, 104, 105, 106, 107, 108, 109, 110, 111, 112, 113, 114, 115, 116, 117, 118, 119, 120, 121, 122]
theorem lit_abc : ("abcdefghijklmnopqrstuvwxyz" : Str) = S LET := by decide +kernel
theorem lit_empty : ("" : Str) = S [] := by decide +kernel
/-- a word of these signs, of at most 600 -/
def isWord (l s : List Nat) : Bool := decide (1 ≤ l.length ∧ l.length ≤ 600) && l.all fun c => decide (c ∈ s)
theorem flat1 : ∀ ls : List Nat, (ls.map fun c => [c]).flatten = ls
  | [] => rfl
  | c :: r => by rw [List.map_cons, List.flatten_cons, flat1 r]; rfl
/-! ### what is known of the class Ring -/
/-- the kinds of values that are met -/
def KD : List String := ["int", "bool", "str", "NoneType", "list", "tuple", "dict"]
structure RingK (K : PySem.W.Frag) : Prop where
  cl : Cls K (He.ga K "Ring")
  na : NoAttr K (He.ga K "Ring") "least"
  ty : ∀ (H : Hp) (a dx : Addr) (fs : List (Str × V)), H a = some (.ins (He.ga K "Ring") dx fs) → TyX K H (.ref a) (.ref (He.ga K "Ring"))
  me : PySem.W.kitOne K (.ref (He.ga K "Ring")) (.ref (He.ga K "Ring")) = some true
  no : ∀ n ∈ KD, PySem.W.kitOne K (.type n) (.ref (He.ga K "Ring")) = some false
def RingAt (K : PySem.W.Frag) (H : Hp) (a : Addr) (l : List Nat) : Prop := ∃ dx, H a = some (.ins (He.ga K "Ring") dx [("least", vS l)])
theorem RingAt.ex' {K : PySem.W.Frag} {H H' : Hp} {a : Addr} {l : List Nat} {m : List Addr} (h : RingAt K H a l) (e : Ex m H H') (n : a ∉ m) : RingAt K H' a l := by
  obtain ⟨dx, h⟩ := h
  exact ⟨dx, e a _ n h⟩
theorem RingAt.ex {K : PySem.W.Frag} {H H' : Hp} {a : Addr} {l : List Nat} {m : List Addr} (e : Ex m H H') (n : a ∉ m) (h : RingAt K H a l) : RingAt K H' a l := by
  obtain ⟨dx, h⟩ := h
  exact ⟨dx, e a _ n h⟩
/-- rings of words, one by one -/
def RingOf (K : PySem.W.Frag) (x y : V) (H : Hp) : Prop := ∃ w a, x = vS w ∧ y = .ref a ∧ RingAt K H a (leastT w)
theorem RingOf.ex {K : PySem.W.Frag} {x y : V} {H H' : Hp} (e : Ex [] H H') (h : RingOf K x y H) : RingOf K x y H' := by
  obtain ⟨w, a, h1, h2, h3⟩ := h
  exact ⟨w, a, h1, h2, h3.ex' e (by simp)⟩
theorem RingAt.uniq {K : PySem.W.Frag} {H : Hp} {a : Addr} {l m : List Nat} (h : RingAt K H a l) (h2 : RingAt K H a m) : l = m := by
  obtain ⟨dx, h⟩ := h
  obtain ⟨dy, h2⟩ := h2
  rw [h] at h2
  have e := Option.some.inj h2
  injection e with _ _ e
  injection e with e _
  injection e with _ e
  exact vS_eq.mp e
/-- texts of rings, one by one -/
def TextOf (K : PySem.W.Frag) (x y : V) (H : Hp) : Prop := ∃ a l, x = .ref a ∧ y = vS l ∧ RingAt K H a l
theorem TextOf.ex {K : PySem.W.Frag} {x y : V} {H H' : Hp} (e : Ex [] H H') (h : TextOf K x y H) : TextOf K x y H' := by
  obtain ⟨w, a, h1, h2, h3⟩ := h
  exact ⟨w, a, h1, h2, h3.ex' e (by simp)⟩
/-! ### the program's promises -/
def Kd (K : PySem.W.Frag) (H : Hp) (v : V) (n : String) : Prop := TyX K H v (.type n) ∧ n ∈ KD
def sp_is_integer (K : PySem.W.Frag) : Sp := fun vs H Q _ => ∃ (v : V) (n : String), vs = [v] ∧ Kd K H v n ∧ Q (.bl (decide (n = "int"))) H
def sp_is_word (K : PySem.W.Frag) : Sp := fun vs H Q _ => ∃ (v : V) (s : List Nat), vs = [v, vS s] ∧ ((∃ l : List Nat, v = vS l ∧ l.length ≤ 10000 ∧ ∀ H', Ex [] H H' → Q (.bl (isWord l s)) H') ∨ (∃ n, Kd K H v n ∧ n ≠ "str" ∧ Q (.bl false) H))
def sp_Ring_text (K : PySem.W.Frag) : Sp := fun vs H Q _ => ∃ (a : Addr) (l : List Nat), vs = [.ref a] ∧ RingAt K H a l ∧ Q (vS l) H
def sp_Ring_str (K : PySem.W.Frag) : Sp := fun vs H Q _ => ∃ (a : Addr) (l : List Nat), vs = [.ref a] ∧ RingAt K H a l ∧ Q (vS l) H
def sp_Ring_eq (K : PySem.W.Frag) : Sp := fun vs H Q _ => ∃ (a : Addr) (v : V), vs = [.ref a, v] ∧ ∃ l, RingAt K H a l ∧ ((∃ b m, v = .ref b ∧ RingAt K H b m ∧ Q (.bl (decide (l = m))) H) ∨ (∃ n, Kd K H v n ∧ Q (.bl false) H))
/-! ### the law's own defs that all laws share -/
def PoolAt (H : Hp) (a : Addr) : Prop := ∃ x y z : Int, H a = some (.lst [.int x, .int y, .int z])
def sp_law_cell (K : PySem.W.Frag) : Sp := fun vs H Q _ => ∃ (a : Addr) (ns : List Int) (k : Int), vs = [.ref a, .int k] ∧ SqL K H a (ns.map V.int) ∧ ns.length ≤ 63 ∧ 0 ≤ k ∧ k < 1000 ∧ ∀ c H', Ex [] H H' → Q (.int c) H'
def sp_law_pool (K : PySem.W.Frag) : Sp := fun vs H Q _ => ∃ c : Int, vs = [.int c] ∧ ∀ p H', H p = none → Ex [] H H' → PoolAt H' p → Q (.ref p) H'
def sp_law_draw (K : PySem.W.Frag) : Sp := fun vs H Q _ => ∃ (a : Addr) (m : Int), vs = [.ref a, .int m] ∧ 0 < m ∧ m < 1000000 ∧ PoolAt H a ∧ ∀ (r : Int) (H' : Hp), 0 ≤ r → r < m → Ex [a] H H' → PoolAt H' a → Q (.int r) H'
def sp_law_signs (K : PySem.W.Frag) : Sp := fun vs H Q _ => ∃ (a : Addr) (m : Int), vs = [.ref a, .int m] ∧ 0 < m ∧ m ≤ 4 ∧ PoolAt H a ∧
  ∀ (l : List Nat) (H' : Hp), l ≠ [] → (l.length : Int) ≤ m → (∀ c ∈ l, c ∈ LET) → l.Nodup → Ex [a] H H' → PoolAt H' a → Q (vS l) H'
def sp_law_turnings (K : PySem.W.Frag) : Sp := fun vs H Q _ => ∃ l : List Nat, vs = [vS l] ∧ l.length ≤ 10000 ∧ ∀ p H', H p = none → Ex [] H H' → H' p = some (.lst ((rots l).map vS)) → Q (.ref p) H'
def sp_law (K : PySem.W.Frag) : Sp := fun vs H Q _ => ∃ (a : Addr) (ns : List Int), vs = [.ref a] ∧ SqL K H a (ns.map V.int) ∧ ns.length ≤ 63 ∧ ∀ H', Q (.bl true) H'
theorem PoolAt.ex {H H' : Hp} {a : Addr} {m : List Addr} (e : Ex m H H') (n : a ∉ m) (h : PoolAt H a) : PoolAt H' a := by
  obtain ⟨x, y, z, h⟩ := h
  exact ⟨x, y, z, e a _ n h⟩
theorem PoolAt.there {H : Hp} {a : Addr} (h : PoolAt H a) : H a ≠ none := by
  obtain ⟨x, y, z, h⟩ := h
  rw [h]
  simp
theorem RingAt.ne {K : PySem.W.Frag} {H : Hp} {a b : Addr} {l : List Nat} (h : RingAt K H b l) (p : PoolAt H a) : b ≠ a := by
  obtain ⟨dx, h⟩ := h
  obtain ⟨x, y, z, p⟩ := p
  intro e
  subst e
  rw [h] at p
  cases p
theorem PoolAt.upd {H : Hp} {a D : Addr} {o : HO} (h : PoolAt H a) (n : D ∉ [a]) : PoolAt (L2.upd H D o) a := by
  obtain ⟨x, y, z, h⟩ := h
  exact ⟨x, y, z, by rw [upd_ne (fun e => n (by rw [e]; simp))]; exact h⟩
section
variable {K : PySem.W.Frag} {H : Hp} {Q : VK} {E : XK}
theorem u_draw {a : Addr} {m : Int} (h0 : 0 < m) (h1 : m < 1000000) (hp : PoolAt H a) (k : ∀ (r : Int) (H' : Hp), 0 ≤ r → r < m → Ex [a] H H' → PoolAt H' a → Q (.int r) H') : sp_law_draw K ([.ref a, .int m] ++ []) H Q E := ⟨a, m, rfl, h0, h1, hp, k⟩
theorem u_pool {c : Int} (k : ∀ p H', H p = none → Ex [] H H' → PoolAt H' p → Q (.ref p) H') : sp_law_pool K ([.int c] ++ []) H Q E := ⟨c, rfl, k⟩
theorem u_cell {a : Addr} {n : Int} {ns : List Int} (hs : SqL K H a (ns.map V.int)) (hl : ns.length ≤ 63) (h0 : 0 ≤ n) (h1 : n < 1000) (k : ∀ c H', Ex [] H H' → Q (.int c) H') : sp_law_cell K ([.ref a, .int n] ++ []) H Q E := ⟨a, ns, n, rfl, hs, hl, h0, h1, k⟩
theorem u_signs {a : Addr} {m : Int} (h0 : 0 < m) (h1 : m ≤ 4) (hp : PoolAt H a) (k : ∀ (l : List Nat) (H' : Hp), l ≠ [] → (l.length : Int) ≤ m → (∀ c ∈ l, c ∈ LET) → l.Nodup → Ex [a] H H' → PoolAt H' a → Q (vS l) H') : sp_law_signs K ([.ref a, .int m] ++ []) H Q E := ⟨a, m, rfl, h0, h1, hp, k⟩
theorem u_turnings {l : List Nat} (hl : l.length ≤ 10000) (k : ∀ p H', H p = none → Ex [] H H' → H' p = some (.lst ((rots l).map vS)) → Q (.ref p) H') : sp_law_turnings K ([vS l] ++ []) H Q E := ⟨l, rfl, hl, k⟩
theorem Kd.int {i : Int} : Kd K H (.int i) "int" := ⟨.base (.int i), by decide +kernel⟩
theorem Kd.bl {b : Bool} : Kd K H (.bl b) "bool" := ⟨.base (.bl b), by decide +kernel⟩
theorem Kd.non : Kd K H .non "NoneType" := ⟨.base .non, by decide +kernel⟩
theorem Kd.str {l : List Nat} : Kd K H (vS l) "str" := ⟨.base (.str (S l)), by decide +kernel⟩
theorem Kd.tup {a : Addr} {xs : List V} (h : SqT K H a xs) : Kd K H (.ref a) "tuple" := by
  refine ⟨?_, by decide +kernel⟩
  rcases h with (h | ⟨o, h⟩) | ⟨o, its, n, h1, h2, _⟩
  · exact .base (.tup h)
  · exact .fTuple h
  · exact .kTuple h1 h2
theorem Kd.lst {a : Addr} {xs : List V} (h : H a = some (.lst xs)) : Kd K H (.ref a) "list" := ⟨.base (.lst h), by decide +kernel⟩
theorem u_is_integer {i : Int} (k : Q (.bl true) H) : sp_is_integer K ([.int i] ++ []) H Q E := ⟨.int i, "int", rfl, Kd.int, k⟩
theorem kitB_str {n : String} (h : n ∈ KD) (hn : n ≠ "str") : kitB n "str" = some false := by
  simp only [KD, List.mem_cons, List.not_mem_nil, or_false] at h
  rcases h with rfl | rfl | rfl | rfl | rfl | rfl | rfl
  all_goals first | exact absurd rfl hn | decide +kernel
theorem s_isiK {v : V} {n m : String} {b : Bool} (h : Kd K H v n) (hb : kitB n m = some b) (k : Q (.bl b) H) : rIsi K [v, .ty m] H Q := ⟨_, _, _, _, _, rfl, .ty _, h.1, kit_ty hb, k⟩
theorem u_is_word {l s : List Nat} (hl : l.length ≤ 10000) (k : ∀ H', Ex [] H H' → Q (.bl (isWord l s)) H') : sp_is_word K ([vS l] ++ [vS s]) H Q E := ⟨_, _, rfl, .inl ⟨l, rfl, hl, k⟩⟩
theorem u_fldRing {a : Addr} {l : List Nat} (F : RingK K) (h : RingAt K H a l) (k : Q (vS l) H) : FldG K "least" (.ref a) H Q := by
  obtain ⟨dx, h⟩ := h
  exact ⟨a, _, dx, _, _, rfl, h, F.cl, F.na, rfl, k⟩
theorem u_textP {a : Addr} {l : List Nat} (h : RingAt K H a l) (k : Q (vS l) H) : PropG (He.ga K "Ring") (sp_Ring_text K) [] E (.ref a) H Q := by
  obtain ⟨dx, h'⟩ := id h
  exact ⟨a, dx, _, rfl, h', a, l, rfl, h, k⟩
theorem u_strRing {a : Addr} {l : List Nat} (h : RingAt K H a l) (k : Q (vS l) H) : rStrO (He.ga K "Ring") (sp_Ring_str K) E [.ref a] H Q := by
  obtain ⟨dx, h'⟩ := id h
  exact ⟨a, dx, _, rfl, h', a, l, rfl, h, _, rfl, k⟩
theorem u_eqRing {a b : Addr} {l m : List Nat} (h : RingAt K H a l) (h2 : RingAt K H b m) (k : Q (.bl (decide (l = m))) H) : rEqO (He.ga K "Ring") (sp_Ring_eq K) E (.ref a) (.ref b) H Q := by
  obtain ⟨dx, h'⟩ := id h
  obtain ⟨dy, h2'⟩ := id h2
  exact ⟨a, dx, _, b, dy, _, rfl, rfl, h', h2', a, _, rfl, l, h, .inl ⟨b, m, rfl, h2, _, rfl, k⟩⟩
theorem u_isiRing {a : Addr} {l : List Nat} (F : RingK K) (h : RingAt K H a l) (k : Q (.bl true) H) : rIsi K [.ref a, .ref (He.ga K "Ring")] H Q := by
  obtain ⟨dx, h'⟩ := id h
  exact ⟨_, _, _, _, _, rfl, .own _, F.ty _ _ _ _ h', F.me, k⟩
theorem isWord_len {l s : List Nat} (h : isWord l s = true) : 1 ≤ l.length ∧ l.length ≤ 600 := of_decide_eq_true (Bool.and_eq_true_iff.mp h).1
theorem isWord_in {l s : List Nat} (h : isWord l s = true) : ∀ c ∈ l, c ∈ s := fun c hc => of_decide_eq_true (List.all_eq_true.mp (Bool.and_eq_true_iff.mp h).2 c hc)
theorem isWord_mk {l s : List Nat} (h1 : 1 ≤ l.length) (h2 : l.length ≤ 600) (h3 : ∀ c ∈ l, c ∈ s) : isWord l s = true := Bool.and_eq_true_iff.mpr ⟨decide_eq_true ⟨h1, h2⟩, List.all_eq_true.mpr fun c hc => decide_eq_true (h3 c hc)⟩
end
end WB
namespace WB
open PySem PySem.Spec PyProof.Rows L2
/-! ### data: lists of texts -/
def dS (l : List Nat) : PyData := .str (S l)
/-- codes of plain signs -/
def plain (l : List Nat) : Prop := ∀ c ∈ l, c < 55296
theorem strOk_S {l : List Nat} (h : plain l) : PyData.strOk (S l) = true := by
  unfold PyData.strOk
  rw [← Array.all_toList, S_cps, List.all_eq_true]
  intro c hc
  have := h c hc
  exact decide_eq_true (by omega)
theorem canLay_strs : ∀ {ls : List (List Nat)}, (∀ l ∈ ls, plain l) → PyData.canLayAll0 (ls.map dS) = true
  | [], _ => by simp [PyData.canLayAll0]
  | l :: ls, h => by
    rw [List.map_cons, PyData.canLayAll0]
    refine Bool.and_eq_true_iff.mpr ⟨?_, canLay_strs fun l hl => h l (List.mem_cons_of_mem _ hl)⟩
    unfold dS
    rw [PyData.canLay0]
    exact strOk_S (h l List.mem_cons_self)
theorem depth_strs : ∀ ls : List (List Nat), PyData.depthAll (ls.map dS) = 0
  | [] => by simp [PyData.depthAll]
  | l :: ls => by
    rw [List.map_cons, PyData.depthAll, depth_strs ls]
    simp [dS, PyData.depth]
theorem shaped_strs {ls : List (List Nat)} (h : ∀ l ∈ ls, plain l) : SeqAt.shaped (.list (ls.map dS)) = true := by
  unfold SeqAt.shaped
  refine Bool.and_eq_true_iff.mpr ⟨?_, decide_eq_true ?_⟩
  · rw [PyData.canLay0]; exact canLay_strs h
  · rw [PyData.depth, depth_strs]; omega
theorem eqv_strs : ∀ ls ms : List (List Nat), PyData.eqvAll (ls.map dS) (ms.map dS) = decide (ls = ms)
  | [], [] => by simp [PyData.eqvAll]
  | [], m :: ms => by simp [PyData.eqvAll]
  | l :: ls, [] => by simp [PyData.eqvAll]
  | l :: ls, m :: ms => by
    rw [List.map_cons, List.map_cons, PyData.eqvAll, eqv_strs ls ms]
    have : PyData.eqv (dS l) (dS m) = decide (l = m) := by
      unfold dS
      rw [PyData.eqv]
      by_cases e : l = m
      · subst e; simp
      · rw [decide_eq_false e]
        exact beq_eq_false_iff_ne.mpr fun z => e (S_inj z)
    rw [this]
    by_cases e : l = m <;> by_cases e2 : ls = ms <;> simp [e, e2]
theorem dp_strs {K : PySem.W.Frag} {H : Hp} : ∀ ls : List (List Nat), DpAll K H (ls.map vS) (ls.map dS)
  | [] => .nil
  | l :: ls => .cons (.str _) (dp_strs ls)
section
variable {K : PySem.W.Frag} {H : Hp} {Q : VK}
theorem s_neLS {a b : Addr} {ls ms : List (List Nat)} (h1 : SqL K H a (ls.map vS)) (h2 : SqL K H b (ms.map vS)) (p1 : ∀ l ∈ ls, plain l) (p2 : ∀ l ∈ ms, plain l) (k : Q (.bl (!decide (ls = ms))) H) : rNeD K (.ref a) (.ref b) H Q := by
  refine ⟨_, _, .lst h1 (dp_strs ls), .lst h2 (dp_strs ms), shaped_strs p1, shaped_strs p2, ?_⟩
  rw [PyData.eqv, eqv_strs]
  exact k
end
end WB
namespace WB
open PySem PySem.Spec PyProof.Rows L2
/-! ### list of a text -/
def rListS : List V → Hp → VK → Prop := fun xs H Q => ∃ l : List Nat, xs = [vS l] ∧ l.length ≤ sizeLine ∧ ∀ p H2, H p = none → Ex [] H H2 → H2 p = some (.lst (l.map fun c => vS [c])) → Q (.ref p) H2
theorem call_listS {X : Cx} (hc : X.calm = true) : CallR X (.type "list") rListS := by
  intro pins s σ H xs us Q I r h
  obtain ⟨l, rfl, hz, q⟩ := h
  obtain ⟨u, rfl, t, rfl⟩ := vals1 r
  have hs : (S l).cps.size = l.length := by simp [S]
  refine PySem.call_list_str (I.ok.hd hc) (S l) t (fun h' tk acc' c' hkeep hS hacc => ?_) (by rw [hs]; exact hz)
  refine ⟨.ref s.heap.objs.size, upd H s.heap.objs.size (.lst (l.map fun c => vS [c])), I.laid hkeep (Nat.le_refl _) (show ObjOk X.prog X.w _ _ _ (.lst (l.map fun c => vS [c])) from ⟨?_, acc'.toList, c', ?_, ?_⟩), rfl, q _ _ (I.hok.fresh (Nat.le_refl _)) (Ex.new (I.hok.fresh (Nat.le_refl _))) upd_same⟩
  · rw [List.length_map]; exact hz
  · have el : acc'.toList.length = acc'.size := by simp
    refine vals_of_at (by rw [List.length_map, el, hacc.1, hs]) fun j x w h1 h2 => ?_
    obtain ⟨c, u, hcu, rfl⟩ := hacc.2 j w (by rw [← Array.getElem?_toList]; exact h2)
    have hcu : l[j]? = some c := by simpa [S] using hcu
    rw [List.getElem?_map, hcu] at h1
    cases h1
    exact ⟨u, rfl⟩
  · rw [Array.toArray_toList]; exact hS
/-! ### calls by keywords, in the parameters' order -/
end WB
namespace WB
open PySem PySem.Spec PyProof.Rows L2
section
variable {M : Model} {prog : Program} {w : World} {A : Around} {E : Value → Shared → Prop} {s : Shared} {K : PySem.W.Frag} {x C f : Addr} {ox : Obj} {od : Option Obj} {b : Value}
theorem entry_ne {Q : Fin → Shared → Prop} (hu : A.units < cLine) (X : K.In s.heap) (I : PySem.W.InstAt s.heap x ox C od) (hs : PySem.W.findIn K (.ref C) "__eq__" = some (some (.ref f))) (hf : PySem.W.isFn K (.ref f) = true)
    (h : wpAny M A (call (.ref f) [.ref x, b]) (fun v s' => ∃ c, v = .bool c ∧ Q (.done (.ret (.bool (!c)))) s') E s) : wpAny M A (Builtin.«object.__ne__» ⟨[.ref x, b], []⟩) Q E s := by
  unfold Builtin.«object.__ne__»
  refine wpAny_bind ?_
  wp_step
  wp_step
  show wpAny M A (pure (Value.ref x, [b])) _ E s
  refine wpAny_pure ?_
  show wpAny M A (cRoomFor "comparison" [Value.ref x, b] >>= _) Q E s
  refine wpAny_bind (wpAny_cRoomFor hu ?_)
  refine wpAny_bind (PySem.W.ifBound_K X I hs hf (wpAny_mono h (fun v s' hv => ?_) fun _ _ z => z))
  obtain ⟨c, rfl, q⟩ := hv
  exact wpAny_bind (wpAny_truthy_bool (wpAny_pure q))
theorem call_objNe {Q : Value → Shared → Prop} (hu : A.in1.units < cLine) (X : K.In s.heap) (I : PySem.W.InstAt s.heap x ox C od) (hm : PySem.W.mroIn K C (.type "object") = some true) (hs : PySem.W.findIn K (.ref C) "__eq__" = some (some (.ref f))) (hf : PySem.W.isFn K (.ref f) = true)
    (h : wpAny (model prog w) A.in1 (call (.ref f) [.ref x, b]) (fun v s' => ∃ c, v = .bool c ∧ Q (.bool (!c)) s') E s) : wpAny (model prog w) A (call (.builtin "object.__ne__") [.ref x, b]) Q E s :=
  wpAny_call (codeAny_call_builtin F.cmp_object.ne.plain F.cmpEntry_ne (PySem.W.check_slot F.cmpKind_ne F.cmpSplit_ne (I.type.andThen (PySem.W.looks_mroIn X hm)) (F.cmpArgs_ne _ _) (entry_ne hu X I hs hf h)))
theorem ifBound_objNe {args : List Value} {Q : Option Value → Shared → Prop} (X : K.In s.heap) (I : PySem.W.InstAt s.heap x ox C od) (hs : PySem.W.findIn K (.ref C) "__ne__" = some (some (.builtin "object.__ne__")))
    (h : wpAny M A (call (.builtin "object.__ne__") (.ref x :: args)) (fun v => Q (some v)) E s) : wpAny M A (callSpecialIfBound? (.ref x) "__ne__" args) Q E s := by
  simp only [callSpecialIfBound?, bindSpecialIfBound?]
  refine wpAny_holding (wpAny_bind (wpAny_bind (wpAny_bind (I.type.here ((PySem.W.looks_findIn X hs).here ?_)))))
  refine wpAny_bind (wpAny_askSetting (wpAny_ite ?_))
  have fin : wpAny M A (call (.builtin "object.__ne__") ([.ref x] ++ args) >>= fun v => pure (some v)) Q E s := wpAny_bind (wpAny_mono h (fun v s' h' => wpAny_pure h') fun _ _ h' => h')
  split
  · exact wpAny_bind (wpAny_of_eq (F.cmp_object.ne.bind _) (wpAny_pure (by exact fin)))
  · exact wpAny_tryCatch (wpAny_bind (wpAny_of_eq (F.cmp_object.ne.bind _) (wpAny_pure (by exact fin))))
theorem rc_ne {tb : Value} {Q : Value → Shared → Prop} (hu : A.units < cLine) (hu1 : A.in1.units < cLine) (X : K.In s.heap) (I : PySem.W.InstAt s.heap x ox C od) (hb : PySem.W.Looks (model prog w) s.heap (typeOf b) tb) (hn : PySem.W.notFirst K C tb = true) (hm : PySem.W.mroIn K C (.type "object") = some true)
    (h1 : PySem.W.findIn K (.ref C) "__ne__" = some (some (.builtin "object.__ne__"))) (hs : PySem.W.findIn K (.ref C) "__eq__" = some (some (.ref f))) (hf : PySem.W.isFn K (.ref f) = true)
    (h : wpAny (model prog w) A.in1 (call (.ref f) [.ref x, b]) (fun v s' => ∃ c, v = .bool c ∧ Q (.bool (!c)) s') E s) : wpAny (model prog w) A (richCompare .NotEq (.ref x) b) Q E s := by
  have one : wpAny (model prog w) A (tryCompare (.ref x) "__ne__" b) (fun r s' => ∃ v, r = some v ∧ Q v s') E s := by
    unfold tryCompare
    refine wpAny_bind (ifBound_objNe X I h1 (call_objNe hu1 X I hm hs hf (wpAny_mono h (fun v s' hv => ?_) fun _ _ e => e)))
    obtain ⟨c, rfl, q⟩ := hv
    exact ⟨c, rfl, wpAny_pure ⟨_, rfl, q⟩⟩
  simp only [richCompare, cmpInfo_NotEq, oneThing_ref]
  refine wpAny_holding (wpAny_bind (wpAny_cRoomFor hu ?_))
  refine wpAny_bind (I.type.here (wpAny_bind (hb.here ?_)))
  split
  · rename_i q
    have e : PySem.W.subIn K tb (.ref C) = some false := by
      rcases Bool.or_eq_true_iff.mp hn with e | e
      · rw [beq_iff_eq.mp e] at q; simp at q
      · exact beq_iff_eq.mp e
    refine wpAny_bind ((PySem.W.looks_subIn X e).here ?_)
    simp only [Bool.false_eq_true, if_false]
    refine wpAny_bind (wpAny_mono one (fun r s' z => ?_) fun _ _ e => e)
    obtain ⟨v, rfl, hq⟩ := z
    exact wpAny_pure hq
  · refine wpAny_bind (wpAny_pure ?_)
    simp only [Bool.false_eq_true, if_false]
    refine wpAny_bind (wpAny_mono one (fun r s' z => ?_) fun _ _ e => e)
    obtain ⟨v, rfl, hq⟩ := z
    exact wpAny_pure hq
end
/-! ### == and != of an own thing and anything -/
theorem type_looks {X : Cx} {pins : List (Addr × Obj)} {σ : L2.St} {H : Hp} {s : Shared} {y : V} {v t : Value} (I : L2.Inv X pins σ H s) (ry : RelV y v) (ty : TyX X.K H y t) : PySem.W.Looks (model X.prog X.w) s.heap (typeOf v) t := by
  obtain ⟨P, Z, hP, _⟩ := kit_of I ry ty
  exact Z.ty _ _ I.kIn hP
section
variable {X : Cx} {CX : CXT} {k : Nat} {f C : Addr} {fd : FuncData} {ps : List Str} {sp : Sp} {E : XK}
def rEqA (K : PySem.W.Frag) (C : Addr) (sp : Sp) (E : XK) : R2 := fun x y H Q => ∃ a dx fs t, x = .ref a ∧ H a = some (.ins C dx fs) ∧ TyX K H y t ∧ PySem.W.notFirst K C t = true ∧ sp [x, y] H (fun z H' => ∃ c, z = .bl c ∧ Q z H') E
theorem op_eqA (S : Spec1 X.K C "__eq__" f) (F : FnOk X.prog X.w X.K X.mg X.base CX k f fd ps sp) (hr : Room k X.A) (hb : Binds X.K fd ps []) (hx : Passes CX X E) : OpR X (compareOp .Eq) (rEqA X.K C sp E) := by
  intro pins s σ H x y v u Q I rx ry h
  obtain ⟨a, dx, fs, t, rfl, ha, ty, nf, h⟩ := h
  cases rx
  obtain ⟨ox, od, J⟩ := inst_at I ha
  obtain ⟨m, hF⟩ := I.fr
  have sb : Sub X k X.A := ⟨hr, rfl⟩
  show wpAny (model X.prog X.w) X.A (richCompare .Eq (.ref a) u) (EP X pins σ Q) X.xe s
  refine PySem.W.cmp_K (op := .Eq) (tb := t) sb.room.units0 hF I.ok.mod.kin J (type_looks I ry ty) nf S.at_ S.fn (wpAny_mono (run_sub (dvs := []) (vs := [.ref a, y]) F sb hb .nil hx I (.cons rfl (.cons ry .nil)) h) (fun v s' hv => ?_) fun _ _ z => z)
  obtain ⟨z, H', I', rz, c, rfl, q⟩ := hv
  cases rz
  exact ⟨.bl c, H', I', rfl, q⟩
structure NeF (K : PySem.W.Frag) (C : Addr) : Prop where
  ne : PySem.W.findIn K (.ref C) "__ne__" = some (some (.builtin "object.__ne__"))
  mro : PySem.W.mroIn K C (.type "object") = some true
def rNeA (K : PySem.W.Frag) (C : Addr) (sp : Sp) (E : XK) : R2 := fun x y H Q => ∃ a dx fs t, x = .ref a ∧ H a = some (.ins C dx fs) ∧ TyX K H y t ∧ PySem.W.notFirst K C t = true ∧ sp [x, y] H (fun z H' => ∃ c, z = .bl c ∧ Q (.bl (!c)) H') E
theorem op_neA (N : NeF X.K C) (S : Spec1 X.K C "__eq__" f) (F : FnOk X.prog X.w X.K X.mg X.base CX k f fd ps sp) (hr : Room (k + 1) X.A) (hb : Binds X.K fd ps []) (hx : Passes CX X E) : OpR X (compareOp .NotEq) (rNeA X.K C sp E) := by
  intro pins s σ H x y v u Q I rx ry h
  obtain ⟨a, dx, fs, t, rfl, ha, ty, nf, h⟩ := h
  cases rx
  obtain ⟨ox, od, J⟩ := inst_at I ha
  have sb : Sub X (k + 1) X.A := ⟨hr, rfl⟩
  show wpAny (model X.prog X.w) X.A (richCompare .NotEq (.ref a) u) (EP X pins σ Q) X.xe s
  refine rc_ne sb.room.units0 sb.in1.room.units0 I.kIn J (type_looks I ry ty) nf N.mro N.ne S.at_ S.fn (wpAny_mono (run_sub (dvs := []) (vs := [.ref a, y]) F sb.in1 hb .nil hx I (.cons rfl (.cons ry .nil)) h) (fun v s' hv => ?_) fun _ _ z => z)
  obtain ⟨z, H', I', rz, c, rfl, q⟩ := hv
  cases rz
  exact ⟨c, rfl, .bl (!c), H', I', rfl, q⟩
end
theorem notFirst_own {K : PySem.W.Frag} {C : Addr} : PySem.W.notFirst K C (.ref C) = true := by simp [PySem.W.notFirst]
theorem notFirst_ty {K : PySem.W.Frag} {C : Addr} {n : String} {r : List String} (e : fastBuiltinMro n = some (r.map Value.type)) : PySem.W.notFirst K C (.type n) = true := by
  show (Value.type n == Value.ref C || (fastBuiltinMro n).map (·.contains (.ref C)) == some false) = true
  rw [e]
  have : (r.map Value.type).contains (.ref C) = false := by
    rw [Bool.eq_false_iff]
    intro h
    have := List.contains_iff_mem.mp h
    obtain ⟨x, _, hx⟩ := List.mem_map.mp this
    cases hx
  simp [this]
/-! ### lists of answers -/
section
variable {K : PySem.W.Frag} {H : Hp} {Q : VK}
/-! ### a text in a text -/
/-! ### lists: times, pop, append -/
theorem s_append {a : Addr} {xs : List V} {y : V} (h : H a = some (.lst xs)) (hz : xs.length < sizeLine) (k : ∀ H2, Ex [a] H H2 → H2 a = some (.lst (xs ++ [y])) → Q .non H2) : rAppend (.ref a) [y] H Q := ⟨a, xs, y, rfl, rfl, h, hz, k _ (Ex.put (by simp)) upd_same⟩
theorem s_popAt {a : Addr} {xs : List V} {i : Nat} {n : Int} {y : V} (h : H a = some (.lst xs)) (hn : n = i) (h0 : i < 1000000) (hy : xs[i]? = some y) (k : ∀ H2, Ex [a] H H2 → H2 a = some (.lst (xs.eraseIdx i)) → Q y H2) : rPopAt (.ref a) [.int n] H Q := by
  have hi : i < xs.length := (List.getElem?_eq_some_iff.mp hy).1
  refine ⟨a, xs, n, i, y, rfl, rfl, h, by omega, by omega, ?_, hy, k _ (Ex.put (by simp)) upd_same⟩
  subst hn
  unfold seqIndex?
  have e1 : ¬ (i : Int) < 0 := by omega
  have e2 : (0 ≤ (i : Int) && decide ((i : Int) < (xs.length : Int))) = true := by simp; omega
  simp only [e1, if_false]
  rw [if_pos (by simpa using hi)]
  rfl
theorem s_bm {te : TE} {ta : TA} {T : String} {r : V → List V → Hp → VK → Prop} {σ : L2.St} (k : te σ H fun x H1 => tyV K T x H1 ∧ ta σ H1 fun xs H2 => r x xs H2 Q) : tBM K T r te ta σ H Q := k
theorem s_tyL {a : Addr} {xs : List V} {B : Prop} (h : H a = some (.lst xs)) (k : B) : tyV K "list" (.ref a) H ∧ B := ⟨.inl ⟨rfl, xs, SqL.of h⟩, k⟩
end
end WB
/-! the head: facts by names -/
namespace WB
open PySem PySem.Spec PyProof.Rows L2
abbrev Fr' := PySem.W.Frag
abbrev Fx := PySem.W.Frag → Bool
def obsW (fa : List He.Fa) (fn : List He5.DefA) (ex : List Fx) (K : Fr') : He.AlD := ((fa.all fun f => f.ok K) && (ex.all (fun f => f K) && fn.all fun d => d.ok K), fn.map fun d => He5.fnA K (d.at_ K))
def SaysW (fa : List He.Fa) (fn : List He5.DefA) (ex : List Fx) (K : Fr') : Prop := obsW fa fn ex K = He5.valA fn
/-- a number, worked out ahead of what follows -/
def frN {α : Type} (n : Nat) (k : Nat → α) : α := Nat.rec (k 0) (fun m _ => k (m + 1)) n
/-- those not seen yet (seen: a number whose bits tell) -/
def addB {α : Type} : List Addr → Nat → List Addr → (Nat → List Addr → α) → α
  | [], seen, new, k => k seen new
  | a :: r, seen, new, k => match Nat.beq (Nat.land (Nat.shiftRight seen a) 1) 1 with
    | true => addB r seen new k
    | false => frN (Nat.lor seen (Nat.shiftLeft 1 a)) fun seen' => addB r seen' (a :: new) k
def bfsB (g : Addr → Option Obj) : Nat → Nat → List Addr → List Addr → List Addr
  | 0, _, _, acc => acc
  | n + 1, seen, front, acc => addB (front.flatMap fun a => match g a with
    | some o => He.refsD o
    | none => []) seen [] fun seen' new => bfsB g n seen' new (new ++ acc)
/-- what the module's names reach in n steps -/
def asB (g : Addr → Option Obj) (n : Nat) : List Addr := bfsB g n (Nat.shiftLeft 1 mainGlobals) [mainGlobals] [mainGlobals] ++ [cStatics]
def obsWG (n : Nat) (fa : List He.Fa) (fn : List He5.DefA) (ex : List Fx) (g : Addr → Option Obj) : He.AlD := obsW fa fn ex (He.frG g (asB g n))
def hookW (n : Nat) (fa : List He.Fa) (fn : List He5.DefA) (ex : List Fx) : PySem.W.Hook where
  α := He.AlD
  obs := fun s => obsWG n fa fn ex s.heap.get?
  val := fun _ => He5.valA fn
  says := fun _ h => ∃ K : Fr', K.In h ∧ SaysW fa fn ex K
  of := fun _ _ e => ⟨_, He.frG_in, e⟩
  keeps := fun _ _ _ ⟨K, hK, c⟩ k => ⟨K, PySem.W.Frag.In.keeps hK k, c⟩
theorem obsWG_eq {n : Nat} {fa : List He.Fa} {fn : List He5.DefA} {ex : List Fx} {g : Addr → Option Obj} {s : Shared} (h : ∀ a, g a = s.heap.get? a) : obsWG n fa fn ex g = (hookW n fa fn ex).obs s := by
  have e : g = s.heap.get? := funext h
  rw [e] <;> rfl
/-- the def's data at f -/
def fdOf (K : Fr') (f : Addr) : FuncData := match K.lookup f with
  | some ⟨_, _, .func fd, _⟩ => fd
  | _ => PySem.W.fnOf "" "" { posonlyargs := [], args := [], vararg := none, kwonlyargs := [], kw_defaults := [], kwarg := none, defaults := [] } [] { kind := .function, names := [], isGenerator := false, isCoroutine := false } .none .none .none .none none .none .none
section
variable {fa : List He.Fa} {fn : List He5.DefA} {ex : List Fx} {K : Fr'}
theorem SaysW.b (c : SaysW fa fn ex K) : (fa.all fun f => f.ok K) = true ∧ ex.all (fun f => f K) = true ∧ (fn.all fun d => d.ok K) = true := by
  have h := congrArg (fun z : He.AlD => z.1) c
  obtain ⟨h1, h2⟩ := He.ba (show ((fa.all fun f => f.ok K) && (ex.all (fun f => f K) && fn.all fun d => d.ok K)) = true from h)
  obtain ⟨h2, h3⟩ := He.ba h2
  exact ⟨h1, h2, h3⟩
theorem SaysW.fact (c : SaysW fa fn ex K) (i : Nat) {f : He.Fa} (h : fa[i]? = some f := by rfl) : f.ok K = true := List.all_eq_true.mp c.b.1 f (List.mem_of_getElem? h)
theorem SaysW.more (c : SaysW fa fn ex K) (i : Nat) {f : Fx} (h : ex[i]? = some f := by rfl) : f K = true := List.all_eq_true.mp c.b.2.1 f (List.mem_of_getElem? h)
theorem SaysW.def_ (c : SaysW fa fn ex K) (i : Nat) {d : He5.DefA} (h : fn[i]? = some d := by rfl) : FunD K d.name d.qual d.params d.body d.scope (d.dvs K) (d.kws K) (d.at_ K) (fdOf K (d.at_ K)) := by
  have e : fn.map (fun d => He5.fnA K (d.at_ K)) = fn.map He5.DefA.val := congrArg (fun z : He.AlD => z.2) c
  have e2 : (fn.map fun d => He5.fnA K (d.at_ K))[i]? = (fn.map He5.DefA.val)[i]? := by rw [e]
  rw [List.getElem?_map, List.getElem?_map, h] at e2
  obtain ⟨fd, F⟩ := He5.DefA.funD (Option.some.inj e2) (List.all_eq_true.mp c.b.2.2 d (List.mem_of_getElem? h))
  obtain ⟨oc, od, dV, kV, doc, pm, an, cdv, ct, osl, e3, lk, r⟩ := F.ex
  have : fdOf K (d.at_ K) = fd := by
    unfold fdOf
    rw [lk]
  rw [this]
  exact F
end
/-! ### facts -/
def specB (x m : Str) : Fx := fun K => He.eqO (PySem.W.findIn K (.ref (He.ga K x)) m) (some (some (.ref (He.ma K (He.ga K x) m)))) && PySem.W.isFn K (.ref (He.ma K (He.ga K x) m))
theorem specB_ok {K : Fr'} {x m : Str} (h : specB x m K = true) : Spec1 K (He.ga K x) m (He.ma K (He.ga K x) m) := by
  obtain ⟨h1, h2⟩ := He.ba h
  exact ⟨He.eqO_ok h1, h2⟩
def propB (x f : Str) : Fx := fun K => He.eqO (PySem.W.findIn K (.ref (He.ga K x)) f) (some (some (.ref (He.ma K (He.ga K x) f)))) && (decide (PySem.W.specialIn K (.ref (He.ma K (He.ga K x) f)) "__get__" = some (some (.builtin "property.__get__"))) && (decide (PySem.W.takesIn K (.ref (He.ma K (He.ga K x) f)) = some true) && (match PySem.W.recIn K (He.ma K (He.ga K x) f) "property" with
  | some (.ref _ :: _) => true
  | _ => false)))
theorem propB_ok {K : Fr'} {x f : Str} (h : propB x f K = true) : PropOf K (He.ga K x) f (He.ma K (He.ga K x) f) (He5.wf K (He.ga K x) "property" f) := by
  obtain ⟨h1, h⟩ := He.ba h
  obtain ⟨h2, h⟩ := He.ba h
  obtain ⟨h3, h4⟩ := He.ba h
  refine ⟨He.eqO_ok h1, of_decide_eq_true h2, of_decide_eq_true h3, ?_⟩
  unfold He5.wf
  split at h4
  · rename_i f r e
    exact ⟨r, by rw [e]⟩
  · cases h4
/-- the class of an own thing, for isinstance -/
def insB (x : Str) : Fx := fun K => He.eqO (PySem.W.findIn K (.ref (He.ga K x)) "__class__") (some (some (.builtin "object.__class__"))) && (He.eqO (PySem.W.specialIn K (.builtin "object.__class__") "__get__") (some (some (.builtin "getset_descriptor.__get__"))) && (decide (PySem.W.takesIn K (.builtin "object.__class__") = some true) && (decide (PySem.W.mroIn K (He.ga K x) (.type "object") = some true) && decide (PySem.W.kitOne K (.ref (He.ga K x)) (.ref (He.ga K x)) = some true))))
theorem insB_ok {K : Fr'} {x : Str} (c : Cls K (He.ga K x)) (h : insB x K = true) : (∀ (H : Hp) (a dx : Addr) (fs : List (Str × V)), H a = some (.ins (He.ga K x) dx fs) → TyX K H (.ref a) (.ref (He.ga K x))) ∧ PySem.W.kitOne K (.ref (He.ga K x)) (.ref (He.ga K x)) = some true := by
  obtain ⟨h1, h⟩ := He.ba h
  obtain ⟨h2, h⟩ := He.ba h
  obtain ⟨h3, h⟩ := He.ba h
  obtain ⟨h4, h5⟩ := He.ba h
  exact ⟨fun H a dx fs e => .base (.ins e c (He.eqO_ok h1) (He.eqO_ok h2) (of_decide_eq_true h3) (of_decide_eq_true h4)), of_decide_eq_true h5⟩
/-- no built-in kind is of the class -/
def noB (x : Str) : Fx := fun K => KD.all fun n => decide (PySem.W.kitOne K (.type n) (.ref (He.ga K x)) = some false)
theorem noB_ok {K : Fr'} {x : Str} (h : noB x K = true) : ∀ n ∈ KD, PySem.W.kitOne K (.type n) (.ref (He.ga K x)) = some false := fun n hn => of_decide_eq_true (List.all_eq_true.mp h n hn)
/-- != by object -/
def neB (x : Str) : Fx := fun K => He.eqO (PySem.W.findIn K (.ref (He.ga K x)) "__ne__") (some (some (.builtin "object.__ne__"))) && decide (PySem.W.mroIn K (He.ga K x) (.type "object") = some true)
theorem neB_ok {K : Fr'} {x : Str} (h : neB x K = true) : NeF K (He.ga K x) := by
  obtain ⟨h1, h2⟩ := He.ba h
  exact ⟨He.eqO_ok h1, of_decide_eq_true h2⟩
/-- attributes of the class are read as usual; a classmethod of it -/
def crB (x : Str) : Fx := fun K => PySem.W.readsIn K (He.ga K x) (.type "type") && decide (PySem.W.specialIn K (.ref (He.ga K x)) "__getattribute__" = some (some (.builtin "type.__getattribute__")))
theorem crB_ok {K : Fr'} {x : Str} (h : crB x K = true) : ClX.CRead K (He.ga K x) (.type "type") := by
  obtain ⟨h1, h2⟩ := He.ba h
  exact ⟨h1, of_decide_eq_true h2⟩
def cmB (x m : Str) : Fx := fun K => He5.wrapB K (He.ga K x) "classmethod" "classmethod.__get__" m && PySem.W.fnIn K (He5.wf K (He.ga K x) "classmethod" m)
theorem cmB_ok {K : Fr'} {x m : Str} (h : cmB x m K = true) : ClX.CMet K (He.ga K x) (.type "type") m (He.ma K (He.ga K x) m) (He5.wf K (He.ga K x) "classmethod" m) := by
  obtain ⟨h1, h2⟩ := He.ba h
  exact He5.cmet_of h1 h2
/-- no such special method -/
def nofB (x m : Str) : Fx := fun K => He.eqO (PySem.W.findIn K (.ref (He.ga K x)) m) (some none)
theorem nofB_ok {K : Fr'} {x m : Str} (h : nofB x m K = true) : PySem.W.findIn K (.ref (He.ga K x)) m = some none := He.eqO_ok h
end WB
namespace WB
open PySem PySem.Spec PyProof.Rows L2
/-- an empty tuple -/
def tup0B (p : Fr' → Addr) : Fx := fun K => match K.lookup (p K) with
  | some ⟨.type c, _, .seq its _, _⟩ => decide (c = "tuple") && decide (its.toList = [])
  | _ => false
theorem tup0B_ok {K : Fr'} {p : Fr' → Addr} (h : tup0B p K = true) (H : Hp) : SqT K H (p K) [] := by
  unfold tup0B at h
  cases q : K.lookup (p K) with
  | none =>
    rw [q] at h
    cases h
  | some o =>
    obtain ⟨oc, od, dt, osl⟩ := o
    rw [q] at h
    cases oc with
    | type c =>
      cases dt with
      | seq its n =>
        obtain ⟨h1, h2⟩ := He.ba (show (decide (c = "tuple") && decide (its.toList = [])) = true from h)
        have h3 : its.toList = [] := of_decide_eq_true h2
        refine .inr ⟨_, its, n, q, congrArg Value.type (of_decide_eq_true h1), rfl, ?_, ?_⟩
        · rw [← Array.length_toList, h3]; exact Nat.zero_le _
        · rw [h3]; exact .nil
      | _ => cases h
    | _ => cases dt <;> cases h
end WB
namespace L2
open PySem
theorem Room.u1 {k : Nat} {A : Around} (r : Room k A) : A.units + 1 < cLine := by have := r.un; omega
theorem Room.u65 {k : Nat} {A : Around} (r : Room k A) : A.units + 65 < cLine := by have := r.un; omega
end L2
namespace WB
open PySem PySem.Spec PyProof.Rows L2
/-- the default of the keyword-only parameter x of the def at f, if it is an object -/
def kwdAt (f : Str × Option Str) (x : Str) (K : PySem.W.Frag) : Addr := match K.lookup (He.fAd K f) with
  | some ⟨_, _, .func fd, _⟩ => (match fd.kwdefaults with
    | .ref D => (match PySem.W.nsIn K D x with
      | some (some (.ref b)) => b
      | _ => 0)
    | _ => 0)
  | _ => 0
end WB
namespace WB
open PySem PySem.Spec PyProof.Rows L2
def top (i : Nat) : Stmt := PySem.Challenge.pw_wherebegun_k13_loops_and_their_rows.main.body.getD i (.Pass ⟨0, 0, 0, 0⟩)
abbrev st_is_integer : Stmt := top 23
abbrev st_is_name : Stmt := top 25
abbrev st_is_word : Stmt := top 26
abbrev st_is_row : Stmt := top 27
abbrev st_check_signs : Stmt := top 29
abbrev st_is_step : Stmt := top 32
abbrev st_is_turn : Stmt := top 33
abbrev st_check_states : Stmt := top 35
abbrev st_check_rows : Stmt := top 36
abbrev st_check_turns : Stmt := top 37
abbrev st_check_yes : Stmt := top 38
abbrev st_Loop_init : Stmt := inClass (top 42) 0
abbrev st_Loop_signs : Stmt := inClass (top 42) 2
abbrev st_Loop_states : Stmt := inClass (top 42) 3
abbrev st_Loop_yes : Stmt := inClass (top 42) 6
abbrev st_Loop_rows : Stmt := inClass (top 42) 4
abbrev st_Loop_turns : Stmt := inClass (top 42) 5
abbrev st_Loop_row : Stmt := inClass (top 42) 7
abbrev st_Loop_made : Stmt := inClass (top 42) 1
abbrev st_Loop_eq : Stmt := inClass (top 42) 17
abbrev st_law_cell : Stmt := top 44
abbrev st_law_pool : Stmt := top 45
abbrev st_law_draw : Stmt := top 46
abbrev st_law_shufU : Stmt := top 47
abbrev st_law_face : Stmt := top 48
abbrev st_law_signs : Stmt := top 49
abbrev st_law_name : Stmt := top 50
abbrev st_law_names : Stmt := top 51
abbrev st_law_amount : Stmt := top 52
abbrev st_law_model : Stmt := top 53
abbrev st_law_lineF : Stmt := top 54
abbrev st_law_parts : Stmt := top 55
abbrev st_law_is_loop : Stmt := top 56
abbrev st_law_other : Stmt := top 57
abbrev st_law_right : Stmt := top 58
abbrev st_law : Stmt := top 59
def d_is_integer : He5.DefA := ⟨fun K => (He.ga K "is_integer"), "is_integer", "is_integer", defArgs st_is_integer, defBody st_is_integer, defScope st_is_integer, [], []⟩
def d_is_name : He5.DefA := ⟨fun K => (He.ga K "is_name"), "is_name", "is_name", defArgs st_is_name, defBody st_is_name, defScope st_is_name, [], []⟩
def d_is_word : He5.DefA := ⟨fun K => (He.ga K "is_word"), "is_word", "is_word", defArgs st_is_word, defBody st_is_word, defScope st_is_word, [.str "abcdefghijklmnopqrstuvwxyz"], []⟩
def d_is_row : He5.DefA := ⟨fun K => (He.ga K "is_row"), "is_row", "is_row", defArgs st_is_row, defBody st_is_row, defScope st_is_row, [], []⟩
def d_check_signs : He5.DefA := ⟨fun K => (He.ga K "check_signs"), "check_signs", "check_signs", defArgs st_check_signs, defBody st_check_signs, defScope st_check_signs, [], []⟩
def d_is_step : He5.DefA := ⟨fun K => (He.ga K "is_step"), "is_step", "is_step", defArgs st_is_step, defBody st_is_step, defScope st_is_step, [], []⟩
def d_is_turn : He5.DefA := ⟨fun K => (He.ga K "is_turn"), "is_turn", "is_turn", defArgs st_is_turn, defBody st_is_turn, defScope st_is_turn, [], []⟩
def d_check_states : He5.DefA := ⟨fun K => (He.ga K "check_states"), "check_states", "check_states", defArgs st_check_states, defBody st_check_states, defScope st_check_states, [], []⟩
def d_check_rows : He5.DefA := ⟨fun K => (He.ga K "check_rows"), "check_rows", "check_rows", defArgs st_check_rows, defBody st_check_rows, defScope st_check_rows, [], []⟩
def d_check_turns : He5.DefA := ⟨fun K => (He.ga K "check_turns"), "check_turns", "check_turns", defArgs st_check_turns, defBody st_check_turns, defScope st_check_turns, [], []⟩
def d_check_yes : He5.DefA := ⟨fun K => (He.ga K "check_yes"), "check_yes", "check_yes", defArgs st_check_yes, defBody st_check_yes, defScope st_check_yes, [], []⟩
def d_Loop_init : He5.DefA := ⟨fun K => (He.ma K (He.ga K "Loop") "__init__"), "__init__", "Loop.__init__", defArgs st_Loop_init, defBody st_Loop_init, defScope st_Loop_init, [.adr (He.dflAt ("Loop", some "__init__") 0)], [("yes", .adr (kwdAt ("Loop", some "__init__") "yes"))]⟩
def d_Loop_signs : He5.DefA := ⟨fun K => (He5.wf K (He.ga K "Loop") "property" "signs"), "signs", "Loop.signs", defArgs st_Loop_signs, defBody st_Loop_signs, defScope st_Loop_signs, [], []⟩
def d_Loop_states : He5.DefA := ⟨fun K => (He5.wf K (He.ga K "Loop") "property" "states"), "states", "Loop.states", defArgs st_Loop_states, defBody st_Loop_states, defScope st_Loop_states, [], []⟩
def d_Loop_yes : He5.DefA := ⟨fun K => (He5.wf K (He.ga K "Loop") "property" "yes"), "yes", "Loop.yes", defArgs st_Loop_yes, defBody st_Loop_yes, defScope st_Loop_yes, [], []⟩
def d_Loop_rows : He5.DefA := ⟨fun K => (He5.wf K (He.ga K "Loop") "property" "rows"), "rows", "Loop.rows", defArgs st_Loop_rows, defBody st_Loop_rows, defScope st_Loop_rows, [], []⟩
def d_Loop_turns : He5.DefA := ⟨fun K => (He5.wf K (He.ga K "Loop") "property" "turns"), "turns", "Loop.turns", defArgs st_Loop_turns, defBody st_Loop_turns, defScope st_Loop_turns, [], []⟩
def d_Loop_row : He5.DefA := ⟨fun K => (He5.wf K (He.ga K "Loop") "property" "row"), "row", "Loop.row", defArgs st_Loop_row, defBody st_Loop_row, defScope st_Loop_row, [], []⟩
def d_Loop_made : He5.DefA := ⟨fun K => (He5.wf K (He.ga K "Loop") "classmethod" "made"), "made", "Loop.made", defArgs st_Loop_made, defBody st_Loop_made, defScope st_Loop_made, [], []⟩
def d_Loop_eq : He5.DefA := ⟨fun K => (He.ma K (He.ga K "Loop") "__eq__"), "__eq__", "Loop.__eq__", defArgs st_Loop_eq, defBody st_Loop_eq, defScope st_Loop_eq, [], []⟩
def d_law_cell : He5.DefA := ⟨fun K => (He.ga K "_law_cell"), "_law_cell", "_law_cell", defArgs st_law_cell, defBody st_law_cell, defScope st_law_cell, [], []⟩
def d_law_pool : He5.DefA := ⟨fun K => (He.ga K "_law_pool"), "_law_pool", "_law_pool", defArgs st_law_pool, defBody st_law_pool, defScope st_law_pool, [], []⟩
def d_law_draw : He5.DefA := ⟨fun K => (He.ga K "_law_draw"), "_law_draw", "_law_draw", defArgs st_law_draw, defBody st_law_draw, defScope st_law_draw, [], []⟩
def d_law_shufU : He5.DefA := ⟨fun K => (He.ga K "_law_shuffled"), "_law_shuffled", "_law_shuffled", defArgs st_law_shufU, defBody st_law_shufU, defScope st_law_shufU, [], []⟩
def d_law_face : He5.DefA := ⟨fun K => (He.ga K "_law_face"), "_law_face", "_law_face", defArgs st_law_face, defBody st_law_face, defScope st_law_face, [], []⟩
def d_law_signs : He5.DefA := ⟨fun K => (He.ga K "_law_signs"), "_law_signs", "_law_signs", defArgs st_law_signs, defBody st_law_signs, defScope st_law_signs, [], []⟩
def d_law_name : He5.DefA := ⟨fun K => (He.ga K "_law_name"), "_law_name", "_law_name", defArgs st_law_name, defBody st_law_name, defScope st_law_name, [], []⟩
def d_law_names : He5.DefA := ⟨fun K => (He.ga K "_law_names"), "_law_names", "_law_names", defArgs st_law_names, defBody st_law_names, defScope st_law_names, [], []⟩
def d_law_amount : He5.DefA := ⟨fun K => (He.ga K "_law_amount"), "_law_amount", "_law_amount", defArgs st_law_amount, defBody st_law_amount, defScope st_law_amount, [], []⟩
def d_law_model : He5.DefA := ⟨fun K => (He.ga K "_law_model"), "_law_model", "_law_model", defArgs st_law_model, defBody st_law_model, defScope st_law_model, [], []⟩
def d_law_lineF : He5.DefA := ⟨fun K => (He.ga K "_law_line"), "_law_line", "_law_line", defArgs st_law_lineF, defBody st_law_lineF, defScope st_law_lineF, [], []⟩
def d_law_parts : He5.DefA := ⟨fun K => (He.ga K "_law_parts"), "_law_parts", "_law_parts", defArgs st_law_parts, defBody st_law_parts, defScope st_law_parts, [], []⟩
def d_law_is_loop : He5.DefA := ⟨fun K => (He.ga K "_law_is_loop"), "_law_is_loop", "_law_is_loop", defArgs st_law_is_loop, defBody st_law_is_loop, defScope st_law_is_loop, [], []⟩
def d_law_other : He5.DefA := ⟨fun K => (He.ga K "_law_other"), "_law_other", "_law_other", defArgs st_law_other, defBody st_law_other, defScope st_law_other, [], []⟩
def d_law_right : He5.DefA := ⟨fun K => (He.ga K "_law_right"), "_law_right", "_law_right", defArgs st_law_right, defBody st_law_right, defScope st_law_right, [], []⟩
def d_law : He5.DefA := ⟨fun K => (He.ga K "law"), "law", "law", defArgs st_law, defBody st_law, defScope st_law, [], []⟩
def fn : List He5.DefA := [d_is_integer, d_is_name, d_is_word, d_is_row, d_check_signs, d_is_step, d_is_turn, d_check_states, d_check_rows, d_check_turns, d_check_yes, d_Loop_init, d_Loop_signs, d_Loop_states, d_Loop_yes, d_Loop_rows, d_Loop_turns, d_Loop_row, d_Loop_made, d_Loop_eq, d_law_cell, d_law_pool, d_law_draw, d_law_shufU, d_law_face, d_law_signs, d_law_name, d_law_names, d_law_amount, d_law_model, d_law_lineF, d_law_parts, d_law_is_loop, d_law_other, d_law_right, d_law]
def fa : List He.Fa := [.glo "is_integer", .glo "is_name", .glo "is_word", .glo "is_row", .glo "check_signs", .glo "is_step", .glo "is_turn", .glo "check_states", .glo "check_rows", .glo "check_turns", .glo "check_yes", .glo "_law_cell", .glo "_law_pool", .glo "_law_draw", .glo "_law_shuffled", .glo "_law_face", .glo "_law_signs", .glo "_law_name", .glo "_law_names", .glo "_law_amount", .glo "_law_model", .glo "_law_line", .glo "_law_parts", .glo "_law_is_loop", .glo "_law_other", .glo "_law_right", .glo "law", .str "LETTERS" "abcdefghijklmnopqrstuvwxyz", .int "LONGEST_NAME" 8, .glo "Loop", .str "MARKS" "abcdefghijklmnopqrstuvwxyz0123456789", .int "MOST_SIGNS" 4, .int "MOST_STATES" 6, .int "MOST_WORD" 600, .free "abs", .free "all", .free "bool", .free "dict", .free "divmod", .free "enumerate", .free "int", .free "isinstance", .free "len", .free "list", .free "max", .free "min", .free "range", .free "set", .free "sorted", .free "str", .free "tuple", .cls "Loop", .noat "Loop" "letters", .noat "Loop" "order", .noat "Loop" "table", .noat "Loop" "ending", .noat "Loop" "marked", .mkr "Loop"]
def ex : List Fx := [insB "Loop", noB "Loop", neB "Loop", nofB "Loop" "__bool__", nofB "Loop" "__len__", crB "Loop", tup0B (He.dflAt ("Loop", some "__init__") 0), tup0B (kwdAt ("Loop", some "__init__") "yes"), propB "Loop" "signs", propB "Loop" "states", propB "Loop" "yes", propB "Loop" "rows", propB "Loop" "turns", propB "Loop" "row", cmB "Loop" "made", specB "Loop" "__eq__"]
def looseN : List Str := (["_wall", "WrongValue", "InvalidWord", "InvalidSigns", "InvalidNumber", "InvalidRow", "NotALoop", "OtherSigns", "InvalidStates", "InvalidRows", "InvalidTurns", "NoAnswer", "TooMany", "MOST_SIGNS", "MOST_STATES"] : List Str) ++ (["MOST_WORD", "MOST_ROUNDS", "MOST_TIMES", "LETTERS", "MARKS", "LONGEST_NAME", "is_integer", "is_within", "is_name", "is_word", "is_row", "check_signs", "place_of", "is_step", "is_turn"] : List Str) ++ (["check_loop", "check_states", "check_rows", "check_turns", "check_yes", "moves", "pairs_along", "along", "Loop", "_law_cell", "_law_pool", "_law_draw", "_law_shuffled", "_law_face", "_law_signs"] : List Str) ++ (["_law_name", "_law_names", "_law_amount", "_law_model", "_law_line", "_law_parts", "_law_is_loop", "_law_other", "_law_right"] : List Str)
abbrev RR : PySem.W.OpenRow := PySem.W.OpenLaw.row PySem.Challenge.rw_wherebegun_k13_loops_and_their_rows
abbrev hk : PySem.W.Hook := hookW 6 fa fn ex
def ob (s : PySem.W.SharedT) : He.AlD := obsWG 6 fa fn ex (HandSHeadRun.getT s)
theorem ob_eq (s : PySem.W.SharedT) : ob s = hk.obs s.abs := obsWG_eq (HandSHeadRun.getT_eq s)
theorem runH (w : World) : HandSHeadRun.RunEq RR (PySem.W.view RR.prog [59]) hk ob 20000 looseN w := by
  intro os
  kernel_rfl
end WB
namespace WB
open PySem PySem.Spec PyProof.Rows L2
local macro_rules | `(tactic| walk_at "lit") => `(tactic| first | exact lit_abc | exact lit_empty)
local macro_rules | `(tactic| walk_at "nm") => `(tactic| focus first | exact List.not_mem_nil | (simp only [List.mem_singleton]; first | assumption | (exact Ne.symm (by assumption)) | (intro hz; subst hz; simp_all; done)))
local macro_rules | `(tactic| walk_at "hp") => `(tactic| first | assumption | (apply Ex.get0 (by assumption); walk_at "hp") | (apply Ex.get (by assumption); (walk_at "nm"); (walk_at "hp")))
local macro_rules | `(tactic| walk_at "sq") => `(tactic| first | assumption | (apply SqL.of; walk_at "hp") | (apply Ex.sqL (by assumption); (walk_at "nm"); (walk_at "sq")))
local macro_rules | `(tactic| walk_at "sqt") => `(tactic| first | assumption | (apply SqT.of; walk_at "hp") | (apply Ex.sqT (by assumption); (walk_at "nm"); (walk_at "sqt")))
local macro_rules | `(tactic| walk_at "sz") => `(tactic| focus ((with_reducible refine Nat.le_trans (m := 100000) ?_ (by decide)); first | omega | (simp; done) | (simp; omega)))
local macro_rules | `(tactic| walk_at "mul") => `(tactic| first | exact Or.inr ⟨by omega, by omega⟩ | exact Or.inl ⟨by omega, by omega⟩)
local macro_rules | `(tactic| walk_at "pool") => `(tactic| first | assumption | (apply PoolAt.ex (by assumption); (walk_at "nm"); (walk_at "pool")))
local macro_rules | `(tactic| walk_at "ring") => `(tactic| first | assumption | (apply RingAt.ex (by assumption); (walk_at "nm"); (walk_at "ring")))
local macro_rules | `(tactic| walk_at "st") => `(tactic| first
  | with_reducible refine s_seq ?_
  | with_reducible refine s_asg ?_
  | with_reducible refine s_gName ?_
  | with_reducible refine s_ret ?_
  | with_reducible refine s_ifS ?_
  | with_reducible refine s_next ?_
  | with_reducible refine s_op ?_
  | ((with_reducible apply s_var); exact rfl)
  | ((with_reducible apply s_cS); (walk_at "lit"))
  | with_reducible refine s_c ?_
  | with_reducible refine s_cb ?_
  | with_reducible refine s_cons ?_
  | with_reducible refine s_nil ?_
  | with_reducible refine s_un ?_
  | with_reducible refine s_call ?_
  | with_reducible refine s_test ?_
  | with_reducible refine s_tB ?_
  | with_reducible refine s_blQ ?_
  | with_reducible refine s_not ?_
  | with_reducible refine s_and ?_
  | with_reducible refine s_or ?_
  | with_reducible refine s_andV ?_
  | with_reducible refine s_orV ?_
  | with_reducible refine s_notV ?_
  | with_reducible refine s_ifE ?_
  | with_reducible refine s_chain ?_
  | ((with_reducible refine s_T ?_ ?_); (with_reducible exact rfl))
  | with_reducible refine s_nT ?_
  | with_reducible refine s_nF ?_
  | ((with_reducible refine s_F ?_ ?_); (with_reducible exact rfl))
  | ((with_reducible refine s_T ?_ ?_); assumption)
  | ((with_reducible refine s_F ?_ ?_); assumption)
  | ((with_reducible refine s_nB ?_ ?_); assumption)
  | ((with_reducible refine s_nA ?_ ?_); assumption)
  | ((with_reducible refine s_Td ?_ ?_); omega)
  | ((with_reducible refine s_Fd ?_ ?_); omega)
  | ((with_reducible refine s_nTd ?_ ?_); omega)
  | ((with_reducible refine s_nFd ?_ ?_); omega)
  | with_reducible refine s_sfld ?_
  | with_reducible refine s_addI ?_
  | with_reducible refine s_subI ?_
  | ((with_reducible refine s_mulI ?_ ?_); (walk_at "mul"))
  | ((with_reducible refine s_divI ?_ ?_); exact ⟨by omega, by omega⟩)
  | ((with_reducible refine s_modI ?_ ?_); omega)
  | ((with_reducible refine s_powI ?_ ?_); exact ⟨by decide, by decide, by decide⟩)
  | with_reducible refine s_ltI ?_
  | with_reducible refine s_leI ?_
  | with_reducible refine s_gtI ?_
  | with_reducible refine s_geI ?_
  | with_reducible refine s_negI ?_
  | with_reducible refine s_absI ?_
  | with_reducible refine s_intI ?_
  | with_reducible refine s_min2 ?_
  | with_reducible refine s_max2 ?_
  | with_reducible refine s_eqI ?_
  | with_reducible refine s_neI ?_
  | with_reducible refine s_eqS ?_
  | with_reducible refine s_neS ?_
  | with_reducible refine s_inSg ?_
  | with_reducible refine s_notInSg ?_
  | ((with_reducible refine s_addS ?_ ?_); (walk_at "sz"))
  | ((with_reducible refine s_lenS ?_ ?_); (walk_at "sz"))
  | ((with_reducible apply s_lenL); (walk_at "sq"))
  | ((with_reducible apply s_lenT); (walk_at "sqt"))
  | ((with_reducible apply s_ixL); (walk_at "sq"); exact rfl)
  | ((with_reducible apply s_ixT); (walk_at "sqt"); exact rfl)
  | with_reducible refine s_gSub ?_
  | ((with_reducible apply s_setL); (walk_at "hp"); (exact rfl); (intro _ _ _))
  | ((with_reducible refine s_alloc ?_ ?_); (walk_at "sz"); (intro _ _ _ _ _))
  | ((with_reducible refine s_divmod ?_ ?_); (exact ⟨by omega, PyProof.noPylong_small (by omega)⟩); (intro _ _ _ _ _))
  | ((with_reducible apply s_gTup); (walk_at "sqt"); (exact rfl))
  | ((with_reducible apply s_gLst); (walk_at "sq"); (exact rfl))
  | with_reducible refine s_gCons ?_
  | with_reducible refine s_gNil ?_
  | with_reducible refine s_lc ?_
  | ((with_reducible apply s_cat); (walk_at "hp"); (walk_at "hp"); (walk_at "sz"); (intro _ _ _ _ _))
  | ((with_reducible apply s_slL); (walk_at "sq"); (intro _ _ _ _ _))
  | with_reducible refine s_for ?_
  | with_reducible refine s_rng1 ?_
  | ((with_reducible refine s_rng1i ?_ ?_); (constructor <;> omega))
  | with_reducible refine s_rng2 ?_
  | ((with_reducible refine s_rng2i ?_ ?_); (refine ⟨?_, ?_, ?_, ?_⟩ <;> omega))
  | with_reducible refine s_iStr ?_
  | with_reducible refine s_iStrS ?_
  | with_reducible refine s_iList ?_
  | ((with_reducible apply s_iListA); (walk_at "sq"))
  | with_reducible refine s_iTup ?_
  | ((with_reducible apply s_iTupA); (walk_at "sqt"))
  | with_reducible refine s_sl ?_
  | with_reducible refine s_noPart ?_
  | with_reducible refine s_part ?_
  | with_reducible refine s_int1 ?_
  | ((with_reducible refine s_slS ?_ ?_); (walk_at "sz"))
  | with_reducible refine s_tup ?_
  | with_reducible refine s_lst ?_
  | with_reducible refine s_par ?_
  | with_reducible refine s_pair ?_
  | with_reducible refine s_M1 ?_
  | with_reducible refine s_isStr ?_
  | with_reducible refine s_revS ?_
  | ((with_reducible refine s_revS1 ?_ ?_); (walk_at "sz"))
  | with_reducible refine s_fldE ?_
  | with_reducible refine s_propE ?_
  | ((with_reducible refine u_draw ?_ ?_ ?_ ?_); omega; omega; (walk_at "pool"); (intro _ _ _ _ _ _))
  | ((with_reducible refine u_pool ?_); (intro _ _ _ _ _))
  | with_reducible refine u_is_integer ?_
  | with_reducible refine s_isiII ?_
  | with_reducible refine s_isiIB ?_
  | with_reducible refine s_isiSS ?_
  | ((with_reducible apply u_fldRing); assumption; (walk_at "ring"))
  | ((with_reducible apply u_textP); (walk_at "ring"))
  | ((with_reducible apply u_strRing); (walk_at "ring"))
  | ((with_reducible apply u_eqRing); (walk_at "ring"); (walk_at "ring"))
  | ((with_reducible apply u_isiRing); assumption; (walk_at "ring"))
  | ((with_reducible refine u_is_word ?_ ?_); omega; (intro _ _))
  | ((with_reducible refine u_turnings ?_ ?_); omega; (intro _ _ _ _ _))
  | with_reducible refine s_makeE ?_
  | with_reducible refine s_methE ?_)
local macro_rules | `(tactic| walk_at "go") => `(tactic| repeat (walk_at "st"))
local macro_rules | `(tactic| walk_at "exs") => `(tactic| first | exact Ex.rfl | assumption | (apply Ex.snoc (by assumption); walk_at "exs") | (apply Ex.snocW (by assumption); walk_at "exs"))
/-- is_integer: 0 value -/
def t_is_integer (K : PySem.W.Frag) : TS :=
  (tRet (tAndV (tCB (rIsi K) (tCons (tVar 0) (tCons (tC (.ty "int")) tNil))) (tNotV (tCB (rIsi K) (tCons (tVar 0) (tCons (tC (.ty "bool")) tNil))))))
/-- is_word: 0 value 1 signs 2 sign -/
def t_is_word (K : PySem.W.Frag) : TS :=
  (tSeq (tIfS (tOr (tNot (tB (tCB (rIsi K) (tCons (tVar 0) (tCons (tC (.ty "str")) tNil))))) (tNot (tTest (tChain rLeI rLeI (tC (.int 1)) (tCB (rLenV K) (tCons (tVar 0) tNil)) (tC (.int 600)))))) (tRet (tC (.bl false))) tNext)
  (tRet (tCB (rAll K) (tCons (tLc (iStr (tVar 0)) (gName 2) tYes (tOp rInSg (tVar 2) (tVar 1)) [2]) tNil))))
/-- _law_cell: 0 _law_script 1 _law_k 2 _law_mixed 3 _law_cell_here -/
def t_law_cell (K : PySem.W.Frag) : TS :=
  (tSeq (tIfS (tTest (tOp rLtI (tVar 1) (tCB (rLenV K) (tCons (tVar 0) tNil)))) (tRet (tOp (rIxL K) (tVar 0) (tVar 1))) tNext)
  (tSeq (tAsg (tOp rAddI (tC (.int 70001)) (tOp rMulI (tOp rMulI (tC (.int 4093)) (tVar 1)) (tVar 1))) (gName 2))
  (tSeq (tFor (iList K (tSl (rSlL K) (tVar 0) tNoPart (tPart (tC (.int 4))))) (gName 3) (tAsg (tOp rModI (tCB rIntI (tCons (tOp rAddI (tOp rMulI (tVar 2) (tC (.int 521))) (tVar 3)) tNil)) (tC (.int 2147483629))) (gName 2)))
  (tRet (tVar 2)))))
/-- _law_pool: 0 _law_cell_here 1 _law_digits -/
def t_law_pool (K : PySem.W.Frag) : TS :=
  (tSeq (tAsg (tIf (tOr (tTest (tOp rLtI (tVar 0) (tC (.int 0)))) (tTest (tOp rGeI (tVar 0) (tOp rPowI (tC (.int 10)) (tC (.int 18)))))) (tCB rAbsI (tCons (tVar 0) tNil)) (tC (.int 0))) (gName 1))
  (tRet (tLst (tCons (tOp rModI (tCB rIntI (tCons (tVar 0) tNil)) (tC (.int 2147483587))) (tCons (tVar 1) (tCons (tC (.int 0)) tNil))))))
/-- _law_draw: 0 _law_pool_here 1 _law_many 2 _law_mixed 3 _law_digit -/
def t_law_draw (K : PySem.W.Frag) : TS :=
  (tSeq (tAsg (tOp rAddI (tOp (rIxL K) (tVar 0) (tC (.int 2))) (tC (.int 1))) (gSub (tVar 0) (tC (.int 2)) rSetL))
  (tSeq (tAsg (tOp rModI (tCB rIntI (tCons (tOp rAddI (tOp rAddI (tOp rMulI (tOp (rIxL K) (tVar 0) (tC (.int 0))) (tC (.int 50021))) (tOp rMulI (tOp (rIxL K) (tVar 0) (tC (.int 2))) (tC (.int 69067)))) (tC (.int 31))) tNil)) (tC (.int 2147483587))) (gName 2))
  (tSeq (tAsg (tOp rModI (tCB rIntI (tCons (tOp rMulI (tVar 2) (tOp rAddI (tOp rDivI (tVar 2) (tC (.int 1024))) (tC (.int 12829)))) tNil)) (tC (.int 2147483629))) (gSub (tVar 0) (tC (.int 0)) rSetL))
  (tSeq (tIfS (tTest (tOp rGtI (tOp (rIxL K) (tVar 0) (tC (.int 1))) (tC (.int 0)))) (tSeq (tAsg (tCB rDivmod (tCons (tOp (rIxL K) (tVar 0) (tC (.int 1))) (tCons (tVar 1) tNil))) (gTup K 2 (gCons (gSub (tVar 0) (tC (.int 1)) rSetL) (gCons (gName 3) gNil))))
  (tRet (tVar 3))) tNext)
  (tRet (tOp rModI (tCB rIntI (tCons (tOp rDivI (tOp (rIxL K) (tVar 0) (tC (.int 0))) (tC (.int 53))) tNil)) (tVar 1)))))))
/-- _law_signs: 0 _law_pool_here 1 _law_most 2 _law_found 3 _law_turn 4 _law_rest 5 _law_mark -/
def t_law_signs (K : PySem.W.Frag) : TS :=
  (tSeq (tAsg (tC (.str "")) (gName 2))
  (tSeq (tFor (iRng1 (tCons (tOp rAddI (tC (.int 1)) (tCall (sp_law_draw K) [] E0 (tCons (tVar 0) (tCons (tVar 1) tNil)))) tNil)) (gName 3) (tSeq (tAsg (tLc (iStr (tC (.str "abcdefghijklmnopqrstuvwxyz"))) (gName 5) (tTest (tOp rNotInSg (tVar 5) (tVar 2))) (tVar 5) [5]) (gName 4))
  (tAsg (tOp rAddS (tVar 2) (tOp (rIxL K) (tVar 4) (tCall (sp_law_draw K) [] E0 (tCons (tVar 0) (tCons (tCB (rLenV K) (tCons (tVar 4) tNil)) tNil))))) (gName 2))))
  (tRet (tVar 2))))
abbrev E1 (Q : VK) : Ends := ⟨fun _ H' => Q .non H', Q, fun _ _ => False, fun _ _ => False⟩
section
variable {K : PySem.W.Frag} {vs : List V} {H : Hp} {Q : VK} {E : XK}
theorem pure_law_draw (h : sp_law_draw K vs H Q E) : t_law_draw K (E1 Q) (start ["_law_pool_here", "_law_many", "_law_mixed", "_law_digit"] vs) H := by
  obtain ⟨a, m, rfl, h0, h1, ⟨x, y, z, hp⟩, k⟩ := h
  show t_law_draw K (E1 Q) [some (.ref a), some (.int m), none, none] H
  unfold t_law_draw
  walk_at "go"
  refine s_2 (fun hb => ?_) (fun hb => ?_)
  · walk_at "go"
    exact k _ _ (Int.emod_nonneg _ (by omega)) (Int.emod_lt_of_pos _ h0) (by walk_at "exs") ⟨_, _, _, by walk_at "hp"⟩
  · walk_at "go"
    exact k _ _ (Int.emod_nonneg _ (by omega)) (Int.emod_lt_of_pos _ h0) (by walk_at "exs") ⟨_, _, _, by walk_at "hp"⟩
theorem pure_law_pool (h : sp_law_pool K vs H Q E) : t_law_pool K (E1 Q) (start ["_law_cell_here", "_law_digits"] vs) H := by
  obtain ⟨c, rfl, k⟩ := h
  show t_law_pool K (E1 Q) [some (.int c), none] H
  unfold t_law_pool
  walk_at "go"
  refine s_2 (fun hb => ?_) (fun hb => ?_)
  · walk_at "go"
    exact k _ _ (by assumption) (by walk_at "exs") ⟨_, _, _, by walk_at "hp"⟩
  · walk_at "go"
    refine s_2 (fun hb => ?_) (fun hb => ?_)
    · walk_at "go"
      exact k _ _ (by assumption) (by walk_at "exs") ⟨_, _, _, by walk_at "hp"⟩
    · walk_at "go"
      exact k _ _ (by assumption) (by walk_at "exs") ⟨_, _, _, by walk_at "hp"⟩
theorem pure_law_cell (h : sp_law_cell K vs H Q E) : t_law_cell K (E1 Q) (start ["_law_script", "_law_k", "_law_mixed", "_law_cell_here"] vs) H := by
  obtain ⟨a, ns, n, rfl, hs, hl, h0, h1, k⟩ := h
  show t_law_cell K (E1 Q) [some (.ref a), some (.int n), none, none] H
  unfold t_law_cell
  walk_at "go"
  refine s_2 (fun hb => ?_) (fun hb => ?_)
  · have hb := of_decide_eq_true hb
    rw [List.length_map] at hb
    have hx : ns[n.toNat]? = some (ns[n.toNat]'(by omega)) := List.getElem?_eq_getElem _
    walk_at "go"
    refine s_ixL hs (atI_of h0 (by rw [List.getElem?_map, hx]; rfl)) ?_
    exact k _ _ Ex.rfl
  · walk_at "go"
    rename_i p H2 hp e2 h2
    refine for_run walk_list (fun i σ H1 => ∃ (c : Int) (x : Option V), σ = [some (.ref a), some (.int n), some (.int c), x] ∧ Ex [] H H1 ∧ H1 p = some (.lst (cutV (ns.map V.int) none (some 4)))) ⟨_, none, rfl, e2, h2⟩ (fun i σ H1 _ ⟨_, _, _, _, h⟩ => SqL.of h) ?_ ?_
    · rintro i x σ H1 H3 hi ⟨c, y, rfl, e, hc⟩ ⟨rfl, hx⟩
      obtain ⟨z, _, rfl⟩ := List.mem_map.mp (mem_cutV (List.mem_of_getElem? hx))
      walk_at "go"
      exact ⟨_, _, rfl, e, hc⟩
    · rintro σ H1 ⟨c, y, rfl, e, hc⟩
      walk_at "go"
      exact k _ _ e
end
section
variable {K : PySem.W.Frag} {vs : List V} {H : Hp} {Q : VK} {E : XK}
theorem four_left {l : List Nat} (h : l.length ≤ 3) : (LET.filter fun c => !decide (c ∈ l)) ≠ [] := by
  intro e
  have h1 : ∀ c ∈ LET, c ∈ l := fun c hc => by
    rcases Classical.em (c ∈ l) with z | z
    · exact z
    · have : c ∈ LET.filter fun c => !decide (c ∈ l) := List.mem_filter.mpr ⟨hc, by simp [z]⟩
      rw [e] at this
      cases this
  have a := h1 97 (by decide)
  have b := h1 98 (by decide)
  have c := h1 99 (by decide)
  have d := h1 100 (by decide)
  match l, h with
  | [], _ => cases a
  | [x], _ => simp at a b; omega
  | [x, y], _ => simp at a b c; omega
  | [x, y, z], _ => simp at a b c d; omega
theorem pure_law_signs (h : sp_law_signs K vs H Q E) : t_law_signs K (E1 Q) (start ["_law_pool_here", "_law_most", "_law_found", "_law_turn", "_law_rest", "_law_mark"] vs) H := by
  obtain ⟨a, m, rfl, h0, h1, hp, k⟩ := h
  show t_law_signs K (E1 Q) [some (.ref a), some (.int m), none, none, none, none] H
  unfold t_law_signs
  walk_at "go"
  rename_i r H1 r0 r1 e1 p1
  refine for_run walk_range (fun i σ H2 => ∃ (f : List Nat) (x y z : Option V), σ = [some (.ref a), some (.int m), some (vS f), x, y, z] ∧ f.length = i ∧ (∀ c ∈ f, c ∈ LET) ∧ f.Nodup ∧ Ex [a] H H2 ∧ PoolAt H2 a) ⟨[], none, none, none, rfl, rfl, by simp, by simp, e1, p1⟩ (fun _ _ _ _ _ => trivial) ?_ ?_
  · rintro i x σ H2 H3 hi ⟨f, y, z, u, rfl, hf, hs, hd, e2, p2⟩ ⟨rfl, rfl⟩
    walk_at "go"
    refine lc_mapS (by decide) (fun c => !decide (c ∈ f)) (fun c => vS [c]) (fun c H4 C1 C0 hc e4 k1 k0 => ?_) (fun D H4 hD e4 hd4 => ?_)
    · walk_at "go"
      refine s_2 (fun hb => ?_) (fun hb => ?_)
      · walk_at "go"
        exact k1 _ Ex.rfl hb
      · exact k0 _ Ex.rfl hb
    · walk_at "go"
      have hne : D ≠ a := fun z => p2.there (z ▸ hD)
      have hL : (LET.filter fun c => !decide (c ∈ f)) ≠ [] := four_left (by omega)
      have hm : ∀ c ∈ (LET.filter fun c => !decide (c ∈ f)), c ∈ LET ∧ c ∉ f := fun c hc => by
        obtain ⟨h1, h2⟩ := List.mem_filter.mp hc
        exact ⟨h1, by simpa using h2⟩
      have hz : (LET.filter fun c => !decide (c ∈ f)).length ≤ 26 := List.length_filter_le _ _
      revert hd4 hL hm hz
      generalize (LET.filter fun c => !decide (c ∈ f)) = L
      intro hd4 hL hm hz
      have h0L : 0 < L.length := List.length_pos_iff.mpr hL
      rw [List.length_map]
      walk_at "go"
      rename_i r2 H5 r20 r21 e5 p5
      obtain ⟨c, hc⟩ : ∃ c, L[r2.toNat]? = some c := ⟨_, List.getElem?_eq_getElem (by omega)⟩
      refine s_ixL (xs := L.map fun c => vS [c]) (by walk_at "sq") (atI_of r20 (by rw [List.getElem?_map, hc]; rfl)) ?_
      obtain ⟨c1, c2⟩ := hm c (List.mem_of_getElem? hc)
      walk_at "go"
      refine ⟨f ++ [c], _, _, _, rfl, by rw [List.length_append, hf]; rfl, fun x hx => ?_, ?_, by walk_at "exs", p5⟩
      · rcases List.mem_append.mp hx with hx | hx
        · exact hs x hx
        · rw [List.mem_singleton.mp hx]; exact c1
      · exact List.nodup_append.mpr ⟨hd, by simp, fun x hx y hy => by rw [List.mem_singleton.mp hy]; intro z; exact c2 (z ▸ hx)⟩
  · rintro σ H2 ⟨f, y, z, u, rfl, hf, hs, hd, e2, p2⟩
    walk_at "go"
    refine k f _ ?_ ?_ hs hd e2 p2
    · intro e
      subst e
      simp at hf
      omega
    · rw [hf]; omega
end
section
variable {K : PySem.W.Frag} {vs : List V} {H : Hp} {Q : VK} {E : XK}
theorem pure_is_integer (h : sp_is_integer K vs H Q E) : t_is_integer K (E1 Q) (start ["value"] vs) H := by
  obtain ⟨v, n, rfl, hk, k⟩ := h
  show t_is_integer K (E1 Q) [some v] H
  unfold t_is_integer
  walk_at "go"
  have hn := hk.2
  simp only [KD, List.mem_cons, List.not_mem_nil, or_false] at hn
  rcases hn with rfl | rfl | rfl | rfl | rfl | rfl | rfl
  · refine s_isiK hk (b := true) (by decide +kernel) ?_
    walk_at "go"
    refine s_isiK hk (b := false) (by decide +kernel) ?_
    walk_at "go"
    exact k
  · refine s_isiK hk (b := true) (by decide +kernel) ?_
    walk_at "go"
    refine s_isiK hk (b := true) (by decide +kernel) ?_
    walk_at "go"
    exact k
  all_goals
    refine s_isiK hk (b := false) (by decide +kernel) ?_
    walk_at "go"
    exact k
theorem pure_is_word (h : sp_is_word K vs H Q E) : t_is_word K (E1 Q) (start ["value", "signs", "sign"] vs) H := by
  obtain ⟨v, s, rfl, h⟩ := h
  show t_is_word K (E1 Q) [some v, some (vS s), none] H
  unfold t_is_word
  rcases h with ⟨l, rfl, hl, k⟩ | ⟨n, hk, hn, k⟩
  rotate_left
  · walk_at "go"
    have hb := kitB_str hk.2 hn
    refine s_isiK hk (b := false) hb ?_
    walk_at "go"
    exact k
  walk_at "go"
  refine s_2 (fun hb => ?_) (fun hb => ?_)
  · have hb := of_decide_eq_true hb
    walk_at "go"
    refine s_2 (fun hb2 => ?_) (fun hb2 => ?_)
    · have hb2 : ¬ (l.length : Int) ≤ 600 := by simpa using hb2
      walk_at "go"
      have e : isWord l s = false := by
        unfold isWord
        rw [decide_eq_false (by omega)]
        rfl
      rw [← e]
      exact k _ Ex.rfl
    · have hb2 : (l.length : Int) ≤ 600 := by simpa using hb2
      walk_at "go"
      refine lc_mapS (by omega) (fun _ => true) (fun c => .bl (decide (c ∈ s))) (fun c H4 C1 C0 hc e4 k1 k0 => ?_) (fun D H4 hD e4 hd4 => ?_)
      · refine s_yes ?_
        walk_at "go"
        exact k1 _ Ex.rfl rfl
      · walk_at "go"
        have e : isWord l s = ((l.filter fun _ => true).map fun c => decide (c ∈ s)).all id := by
          unfold isWord
          rw [decide_eq_true (by omega), Bool.true_and, List.all_map, List.filter_eq_self.mpr (by simp)]
          rfl
        refine s_all (bs := (l.filter fun _ => true).map fun c => decide (c ∈ s)) ?_ ?_
        · rw [List.map_map]
          exact SqL.of hd4
        · rw [← e]
          exact k _ e4
  · have hb : ¬ 1 ≤ (l.length : Int) := of_decide_eq_false hb
    refine s_blQ ?_
    walk_at "go"
    have e : isWord l s = false := by
      unfold isWord
      rw [decide_eq_false (by omega)]
      rfl
    rw [← e]
    exact k _ Ex.rfl
variable (F : RingK K)
include F
end
end WB
namespace WB
/-! ### the least of a list -/
/-! ### turnings -/
/-! ### repeating -/
/-! ### the least turning of a repeated word -/
/-! ### reversing -/
/-! ### periods -/
section
open PySem PySem.Spec PyProof.Rows L2
theorem Ex.drop {H H1 H2 : Hp} {p : Addr} (hp : H p = none) (a : Ex [] H H1) (b : Ex [p] H1 H2) : Ex [] H H2 := fun x o _ h => b x o (by simpa using ne_of_none h hp) (a x o (by simp) h)
end
end WB
namespace WB
open PySem PySem.Spec PyProof.Rows L2
/-! ### promises -/
def sp_is_row (K : PySem.W.Frag) : Sp := fun vs H Q _ => ∃ (v : V) (m : Int), vs = [v, .int m] ∧ ((∃ a xs, v = .ref a ∧ SqT K H a xs ∧ Q (.bl (decide ((xs.length : Int) = m))) H) ∨ (∃ n, Kd K H v n ∧ n ≠ "tuple" ∧ Q (.bl false) H))
section
variable {K : PySem.W.Frag} {H : Hp} {Q : VK} {E : XK}
theorem u_row {a : Addr} {xs : List V} {m : Int} (h : SqT K H a xs) (k : Q (.bl (decide ((xs.length : Int) = m))) H) : sp_is_row K ([.ref a, .int m] ++ []) H Q E := ⟨_, _, rfl, .inl ⟨_, _, rfl, h, k⟩⟩
theorem notFirst_KD {C : Addr} {n : String} (h : n ∈ KD) : PySem.W.notFirst K C (.type n) = true := by
  simp only [KD, List.mem_cons, List.not_mem_nil, or_false] at h
  rcases h with rfl | rfl | rfl | rfl | rfl | rfl | rfl
  · exact notFirst_ty (r := ["int", "object"]) (by decide +kernel)
  · exact notFirst_ty (r := ["bool", "int", "object"]) (by decide +kernel)
  · exact notFirst_ty (r := ["str", "object"]) (by decide +kernel)
  · exact notFirst_ty (r := ["NoneType", "object"]) (by decide +kernel)
  · exact notFirst_ty (r := ["list", "object"]) (by decide +kernel)
  · exact notFirst_ty (r := ["tuple", "object"]) (by decide +kernel)
  · exact notFirst_ty (r := ["dict", "object"]) (by decide +kernel)
end
end WB
namespace WB
open PySem PySem.Spec PyProof.Rows L2
local macro_rules | `(tactic| walk_at "lit") => `(tactic| first | exact lit_abc | exact lit_empty)
local macro_rules | `(tactic| walk_at "nm") => `(tactic| focus first | exact List.not_mem_nil | (simp only [List.mem_singleton]; first | assumption | (exact Ne.symm (by assumption)) | (intro hz; subst hz; simp_all; done)))
local macro_rules | `(tactic| walk_at "hp") => `(tactic| first | assumption | (apply Ex.get0 (by assumption); walk_at "hp") | (apply Ex.get (by assumption); (walk_at "nm"); (walk_at "hp")))
local macro_rules | `(tactic| walk_at "sq") => `(tactic| first | assumption | (apply SqL.of; walk_at "hp") | (apply Ex.sqL (by assumption); (walk_at "nm"); (walk_at "sq")))
local macro_rules | `(tactic| walk_at "sqt") => `(tactic| first | assumption | (apply SqT.of; walk_at "hp") | (apply Ex.sqT (by assumption); (walk_at "nm"); (walk_at "sqt")))
local macro_rules | `(tactic| walk_at "sz") => `(tactic| focus ((with_reducible refine Nat.le_trans (m := 100000) ?_ (by decide)); first | omega | (simp; done) | (simp; omega)))
local macro_rules | `(tactic| walk_at "mul") => `(tactic| first | exact Or.inr ⟨by omega, by omega⟩ | exact Or.inl ⟨by omega, by omega⟩)
local macro_rules | `(tactic| walk_at "pool") => `(tactic| first | assumption | (apply PoolAt.ex (by assumption); (walk_at "nm"); (walk_at "pool")))
local macro_rules | `(tactic| walk_at "ring") => `(tactic| first | assumption | (apply RingAt.ex (by assumption); (walk_at "nm"); (walk_at "ring")))
local macro_rules | `(tactic| walk_at "st") => `(tactic| first
  | with_reducible refine s_seq ?_
  | with_reducible refine s_asg ?_
  | with_reducible refine s_gName ?_
  | with_reducible refine s_ret ?_
  | with_reducible refine s_ifS ?_
  | with_reducible refine s_next ?_
  | with_reducible refine s_op ?_
  | ((with_reducible apply s_var); exact rfl)
  | ((with_reducible apply s_cS); (walk_at "lit"))
  | with_reducible refine s_c ?_
  | with_reducible refine s_cb ?_
  | with_reducible refine s_cons ?_
  | with_reducible refine s_nil ?_
  | with_reducible refine s_un ?_
  | with_reducible refine s_call ?_
  | with_reducible refine s_test ?_
  | with_reducible refine s_tB ?_
  | with_reducible refine s_blQ ?_
  | with_reducible refine s_not ?_
  | with_reducible refine s_and ?_
  | with_reducible refine s_or ?_
  | with_reducible refine s_andV ?_
  | with_reducible refine s_orV ?_
  | with_reducible refine s_notV ?_
  | with_reducible refine s_ifE ?_
  | with_reducible refine s_chain ?_
  | ((with_reducible refine s_T ?_ ?_); (with_reducible exact rfl))
  | with_reducible refine s_nT ?_
  | with_reducible refine s_nF ?_
  | ((with_reducible refine s_F ?_ ?_); (with_reducible exact rfl))
  | ((with_reducible refine s_T ?_ ?_); assumption)
  | ((with_reducible refine s_F ?_ ?_); assumption)
  | ((with_reducible refine s_nB ?_ ?_); assumption)
  | ((with_reducible refine s_nA ?_ ?_); assumption)
  | ((with_reducible refine s_Td ?_ ?_); omega)
  | ((with_reducible refine s_Fd ?_ ?_); omega)
  | ((with_reducible refine s_nTd ?_ ?_); omega)
  | ((with_reducible refine s_nFd ?_ ?_); omega)
  | with_reducible refine s_sfld ?_
  | with_reducible refine s_addI ?_
  | with_reducible refine s_subI ?_
  | ((with_reducible refine s_mulI ?_ ?_); (walk_at "mul"))
  | ((with_reducible refine s_divI ?_ ?_); exact ⟨by omega, by omega⟩)
  | ((with_reducible refine s_modI ?_ ?_); omega)
  | ((with_reducible refine s_powI ?_ ?_); exact ⟨by decide, by decide, by decide⟩)
  | with_reducible refine s_ltI ?_
  | with_reducible refine s_leI ?_
  | with_reducible refine s_gtI ?_
  | with_reducible refine s_geI ?_
  | with_reducible refine s_negI ?_
  | with_reducible refine s_absI ?_
  | with_reducible refine s_intI ?_
  | with_reducible refine s_min2 ?_
  | with_reducible refine s_max2 ?_
  | with_reducible refine s_eqI ?_
  | with_reducible refine s_neI ?_
  | with_reducible refine s_eqS ?_
  | with_reducible refine s_neS ?_
  | with_reducible refine s_inSg ?_
  | with_reducible refine s_notInSg ?_
  | ((with_reducible refine s_addS ?_ ?_); (walk_at "sz"))
  | ((with_reducible refine s_lenS ?_ ?_); (walk_at "sz"))
  | ((with_reducible apply s_lenL); (walk_at "sq"))
  | ((with_reducible apply s_lenT); (walk_at "sqt"))
  | ((with_reducible apply s_ixL); (walk_at "sq"); exact rfl)
  | ((with_reducible apply s_ixT); (walk_at "sqt"); exact rfl)
  | with_reducible refine s_gSub ?_
  | ((with_reducible apply s_setL); (walk_at "hp"); (exact rfl); (intro _ _ _))
  | ((with_reducible refine s_alloc ?_ ?_); (walk_at "sz"); (intro _ _ _ _ _))
  | ((with_reducible refine s_divmod ?_ ?_); (exact ⟨by omega, PyProof.noPylong_small (by omega)⟩); (intro _ _ _ _ _))
  | ((with_reducible apply s_gTup); (walk_at "sqt"); (exact rfl))
  | ((with_reducible apply s_gLst); (walk_at "sq"); (exact rfl))
  | with_reducible refine s_gCons ?_
  | with_reducible refine s_gNil ?_
  | with_reducible refine s_lc ?_
  | ((with_reducible apply s_cat); (walk_at "hp"); (walk_at "hp"); (walk_at "sz"); (intro _ _ _ _ _))
  | ((with_reducible apply s_slL); (walk_at "sq"); (intro _ _ _ _ _))
  | with_reducible refine s_for ?_
  | with_reducible refine s_rng1 ?_
  | ((with_reducible refine s_rng1i ?_ ?_); (constructor <;> omega))
  | with_reducible refine s_rng2 ?_
  | ((with_reducible refine s_rng2i ?_ ?_); (refine ⟨?_, ?_, ?_, ?_⟩ <;> omega))
  | with_reducible refine s_iStr ?_
  | with_reducible refine s_iStrS ?_
  | with_reducible refine s_iList ?_
  | ((with_reducible apply s_iListA); (walk_at "sq"))
  | with_reducible refine s_iTup ?_
  | ((with_reducible apply s_iTupA); (walk_at "sqt"))
  | with_reducible refine s_sl ?_
  | with_reducible refine s_noPart ?_
  | with_reducible refine s_part ?_
  | with_reducible refine s_int1 ?_
  | ((with_reducible refine s_slS ?_ ?_); (walk_at "sz"))
  | with_reducible refine s_tup ?_
  | with_reducible refine s_lst ?_
  | with_reducible refine s_par ?_
  | with_reducible refine s_pair ?_
  | with_reducible refine s_M1 ?_
  | with_reducible refine s_isStr ?_
  | with_reducible refine s_revS ?_
  | ((with_reducible refine s_revS1 ?_ ?_); (walk_at "sz"))
  | with_reducible refine s_fldE ?_
  | with_reducible refine s_propE ?_
  | ((with_reducible refine u_draw ?_ ?_ ?_ ?_); omega; omega; (walk_at "pool"); (intro _ _ _ _ _ _))
  | ((with_reducible refine u_pool ?_); (intro _ _ _ _ _))
  | with_reducible refine u_is_integer ?_
  | with_reducible refine s_isiII ?_
  | with_reducible refine s_isiIB ?_
  | with_reducible refine s_isiSS ?_
  | ((with_reducible apply u_fldRing); assumption; (walk_at "ring"))
  | ((with_reducible apply u_textP); (walk_at "ring"))
  | ((with_reducible apply u_strRing); (walk_at "ring"))
  | ((with_reducible apply u_eqRing); (walk_at "ring"); (walk_at "ring"))
  | ((with_reducible apply u_isiRing); assumption; (walk_at "ring"))
  | ((with_reducible refine u_is_word ?_ ?_); omega; (intro _ _))
  | ((with_reducible refine u_turnings ?_ ?_); omega; (intro _ _ _ _ _))
  | with_reducible refine s_makeE ?_
  | with_reducible refine s_methE ?_)
local macro_rules | `(tactic| walk_at "go") => `(tactic| repeat (walk_at "st"))
local macro_rules | `(tactic| walk_at "exs") => `(tactic| first | exact Ex.rfl | assumption | (apply Ex.snoc (by assumption); walk_at "exs") | (apply Ex.snocW (by assumption); walk_at "exs"))
/-- is_row: 0 value 1 length -/
def t_is_row (K : PySem.W.Frag) : TS :=
  (tRet (tAndV (tCB (rIsi K) (tCons (tVar 0) (tCons (tC (.ty "tuple")) tNil))) (tOp rEq (tCB (rLenV K) (tCons (tVar 0) tNil)) (tVar 1))))
section
variable {K : PySem.W.Frag} {vs : List V} {H : Hp} {Q : VK} {E : XK}
theorem pure_is_row (h : sp_is_row K vs H Q E) : t_is_row K (E1 Q) (start ["value", "length"] vs) H := by
  obtain ⟨v, m, rfl, h⟩ := h
  show t_is_row K (E1 Q) [some v, some (.int m)] H
  unfold t_is_row
  walk_at "go"
  rcases h with ⟨a, xs, rfl, hs, k⟩ | ⟨n, hk, hn, k⟩
  · refine s_isiK (Kd.tup hs) (b := true) (by decide +kernel) ?_
    walk_at "go"
    exact k
  · have hm := hk.2
    simp only [KD, List.mem_cons, List.not_mem_nil, or_false] at hm
    rcases hm with rfl | rfl | rfl | rfl | rfl | rfl | rfl
    all_goals first
      | exact absurd rfl hn
      | (refine s_isiK hk (b := false) (by decide +kernel) ?_
         walk_at "go"
         exact k)
variable (F : RingK K)
include F
end
end WB
namespace WB
open PySem PySem.Spec PyProof.Rows L2
/-! ### plain lemmas of texts -/
theorem Ex.dropM {H H1 H2 : Hp} {p : Addr} {m : List Addr} (hp : H p = none) (a : Ex m H H1) (b : Ex [p] H1 H2) : Ex m H H2 := fun x o hx h => b x o (by simpa using ne_of_none h hp) (a x o hx h)
end WB
namespace WB
open PySem PySem.Spec PyProof.Rows L2
/-! ### values of any kind -/
def oddS : List (List Nat) := [[], [97], [97, 98], [65], [97, 32, 98], [97, 97], [97, 10], [97, 98, 99, 100, 101]]
def kA : Key := .inr "a"
inductive OddAt (m : List Addr) (H : Hp) : V → Prop
  | non : OddAt m H .non
  | bl (b : Bool) : OddAt m H (.bl b)
  | int (i : Int) (h : i.natAbs ≤ 10 ^ 38) : OddAt m H (.int i)
  | str (l : List Nat) (h : l ∈ oddS) : OddAt m H (vS l)
  | l0 {a : Addr} (n : a ∉ m) (h : H a = some (.lst [])) : OddAt m H (.ref a)
  | l1 {a : Addr} (n : a ∉ m) (h : H a = some (.lst [vS [97]])) : OddAt m H (.ref a)
  | d0 {a : Addr} (n : a ∉ m) (h : H a = some (.dK [])) : OddAt m H (.ref a)
  | d1 {a : Addr} (n : a ∉ m) (h : H a = some (.dK [(kA, .int 1)])) : OddAt m H (.ref a)
  | t0 {a : Addr} (n : a ∉ m) (h : H a = some (.tup [])) : OddAt m H (.ref a)
  | t1 {a : Addr} (n : a ∉ m) (h : H a = some (.tup [vS [97]])) : OddAt m H (.ref a)
  | t2 {a : Addr} (n : a ∉ m) (h : H a = some (.tup [.int 0, .int 1])) : OddAt m H (.ref a)
  | t3 {a b c d e : Addr} (n : a ∉ m) (nb : b ∉ m) (nc : c ∉ m) (nd : d ∉ m) (ne : e ∉ m) (h : H a = some (.tup [.ref b, .ref c])) (hb : H b = some (.lst [])) (hc : H c = some (.dK [(kA, .ref d)])) (hd : H d = some (.tup [.int 1, .ref e])) (he : H e = some (.lst [])) : OddAt m H (.ref a)
theorem OddAt.ex {m : List Addr} {H H' : Hp} {v : V} (e : Ex m H H') (h : OddAt m H v) : OddAt m H' v := by
  cases h with
  | non => exact .non
  | bl b => exact .bl b
  | int i h => exact .int i h
  | str l h => exact .str l h
  | l0 n h => exact .l0 n (e _ _ n h)
  | l1 n h => exact .l1 n (e _ _ n h)
  | d0 n h => exact .d0 n (e _ _ n h)
  | d1 n h => exact .d1 n (e _ _ n h)
  | t0 n h => exact .t0 n (e _ _ n h)
  | t1 n h => exact .t1 n (e _ _ n h)
  | t2 n h => exact .t2 n (e _ _ n h)
  | t3 n nb nc nd ne h hb hc hd he => exact .t3 n nb nc nd ne (e _ _ n h) (e _ _ nb hb) (e _ _ nc hc) (e _ _ nd hd) (e _ _ ne he)
theorem Kd.dict {K : PySem.W.Frag} {H : Hp} {a : Addr} {kvs : List (Key × V)} (h : H a = some (.dK kvs)) : Kd K H (.ref a) "dict" := ⟨.base (.dK h), by decide +kernel⟩
end WB
/-! len(set(..)) of texts, any of them more than once -/
namespace WB
open PySem PySem.Spec PyProof.Rows L2
/-- how many different ones -/
def ndc {α : Type} [DecidableEq α] : List α → Nat
  | [] => 0
  | x :: r => if x ∈ r then ndc r else ndc r + 1
theorem ndc_le {α : Type} [DecidableEq α] : ∀ l : List α, ndc l ≤ l.length
  | [] => Nat.le_refl _
  | x :: r => by
    have := ndc_le r
    rw [ndc, List.length_cons]
    split <;> omega
theorem ndc_full {α : Type} [DecidableEq α] : ∀ l : List α, ndc l = l.length ↔ l.Nodup
  | [] => by simp [ndc]
  | x :: r => by
    have h1 := ndc_le r
    rw [ndc, List.length_cons, List.nodup_cons, ← ndc_full r]
    split
    · rename_i h
      constructor
      · intro z; omega
      · intro z; exact absurd h z.1
    · rename_i h
      constructor
      · intro z; exact ⟨h, by omega⟩
      · intro z; omega
theorem take_rev {α : Type} {xs : List α} {i : Nat} (h : i < xs.length) : (xs.take (i + 1)).reverse = xs[i] :: (xs.take i).reverse := by
  rw [List.take_add_one, List.getElem?_eq_getElem h]
  simp
section
variable {prog : Program} {w : World} {A : Around} {R : Result → Shared → Prop} {J : Addr} {fp wr : List Addr} {n : Nat} {P : Nat → Value → Prop} {St : Nat → Heap → Prop}
theorem setLoop (W : Walks prog w A.in1 J fp wr n P St) (c : Addr) (hc : c ∉ fp) (xs : List Str) (hx : xs.length = n) (hb : n < 4000) (hv : ∀ i v, P i v → ∃ t, v = .str (xs.getD i Str.empty) t) :
    ∀ (m i : Nat) (s : Shared), n - i = m → i ≤ n → St i s.heap → s.heap.SetOf (PySem.strKind prog w) c (fun z => decide (z ∈ xs.take i)) (ndc (xs.take i).reverse) →
      (∀ h' tk, (∀ b o, b ∉ c :: wr → s.heap.get? b = some o → h'.get? b = some o) → h'.SetOf (PySem.strKind prog w) c (fun z => decide (z ∈ xs)) (ndc xs.reverse) → R (.ok (.ret .none)) { s with heap := h', toks := tk }) →
      codeAny (model prog w) A (.builtin "set.update.loop" ⟨[.ref c, .ref J], []⟩) R s := by
  have cw : c ∉ wr := fun z => hc (W.sub _ z)
  intro m
  induction m with
  | zero =>
    intro i s e1 e2 st hs k
    obtain rfl : i = n := by omega
    refine codeAny_builtin PyProof.Rows.F.entry_set_update_loop ?_
    rw [Around.under_plainId PyProof.Rows.F.plain_set_update_loop _]
    show wpAny _ _ (pyNext (.ref J) >>= _) _ _ _
    refine wpAny_bind (W.done s _ _ st fun h1 t1 k1 => ?_)
    refine (show wpAny _ _ (ret Value.none) _ _ _ from wpAny_pure (k h1 t1 (fun b o z => k1 b o fun y => z (List.mem_cons_of_mem _ y)) ?_))
    rw [List.take_of_length_le (by omega)] at hs
    obtain ⟨o, es, ep, t, ho, r⟩ := hs
    exact ⟨o, es, ep, t, k1 c o cw ho, r⟩
  | succ m ih =>
    intro i s e1 e2 st hs k
    have lt : i < n := by omega
    have lt2 : i < xs.length := by omega
    refine codeAny_builtin PyProof.Rows.F.entry_set_update_loop ?_
    rw [Around.under_plainId PyProof.Rows.F.plain_set_update_loop _]
    show wpAny _ _ (pyNext (.ref J) >>= _) _ _ _
    refine wpAny_bind (W.item i s _ _ lt st fun v h1 t1 hP st1 k1 => ?_)
    obtain ⟨t, rfl⟩ := hv i v hP
    have eg : xs.getD i Str.empty = xs[i] := by rw [List.getD_eq_getElem?_getD, List.getElem?_eq_getElem lt2]; rfl
    rw [eg]
    have hs1 : h1.SetOf (PySem.strKind prog w) c (fun z => decide (z ∈ xs.take i)) (ndc (xs.take i).reverse) := by
      obtain ⟨o, es, ep, t', ho, r⟩ := hs
      exact ⟨o, es, ep, t', k1 c o cw ho, r⟩
    have hl := ndc_le (xs.take i).reverse
    rw [List.length_reverse, List.length_take] at hl
    show wpAny _ _ (holding [Value.str xs[i] t] (setAdd c (.str xs[i] t)) >>= _) _ _ _
    unfold setAdd
    refine wpAny_bind (wpAny_holding (wpAny_holding (wpAny_bind ((PySem.strKind prog w).pyHash (k := xs[i]) (strKind_is _ _ _ _) ?_))))
    refine wpAny_setAddHashed_of (knd := PySem.strKind prog w) (s := ⟨h1, s.gens, s.drawn, t1 + 1, s.os⟩) (strKind_is _ _ _ _) rfl hs1 (by unfold scanBound; omega) fun h2 sb hs2 => ?_
    have hs3 : h2.SetOf (PySem.strKind prog w) c (fun z => decide (z ∈ xs.take (i + 1))) (ndc (xs.take (i + 1)).reverse) := by
      refine SetOf_congr hs2 (fun z => ?_) ?_
      · rw [List.take_add_one, List.getElem?_eq_getElem lt2, Bool.eq_iff_iff, Bool.or_eq_true, decide_eq_true_iff, decide_eq_true_iff, decide_eq_true_iff, List.mem_append]
        simp
      · rw [take_rev lt2, ndc]
        simp
    refine wpAny_pure ⟨plainId_quiet PyProof.Rows.F.plain_set_update_loop _, ih (i + 1) ⟨h2, s.gens, s.drawn, t1 + 1, s.os⟩ (by omega) lt (W.frame _ h1 _ st1 fun b hbf o e => ?_) hs3 fun h3 t3 k3 hs4 => ?_⟩
    · rw [sb.2 b (fun z : b = c => hc (by rw [← z]; exact hbf))]; exact e
    · refine k h3 t3 (fun b o z e => k3 b o z ?_) hs4
      rw [sb.2 b (fun y : b = c => z (by rw [y]; exact List.mem_cons_self))]
      exact k1 b o (fun y => z (List.mem_cons_of_mem _ y)) e
end
section
variable {prog : Program} {w : World} {A : Around} {E : Value → Shared → Prop} {s : Shared}
abbrev newSetO (led : Bool) : Obj := { cls := .type "set", dict := none, data := .set #[] 0 (.fresh 0 0 led) }
/-- what set(..) asks of what it takes: src gives the texts xs, one by one -/
structure Src (prog : Program) (w : World) (h : Heap) (src : Value) (xs : List Str) : Prop where
  any : ∀ {A : Around} {E : Value → Shared → Prop} {s : Shared} {Q : Bool → Shared → Prop}, (∀ b o, h.get? b = some o → s.heap.get? b = some o) → Q false s → wpAny (model prog w) A (Builtin.Frozenset.isAnySet src) Q E s
  ty : ∀ {A : Around} {E : Value → Shared → Prop} {s : Shared} {Q : Value → Shared → Prop}, (∀ b o, h.get? b = some o → s.heap.get? b = some o) → (∀ t, (t == Value.type "dict") = false → Q t s) → wpAny (model prog w) A (typeOf src) Q E s
  it : ∀ {A : Around} {E : Value → Shared → Prop} {s : Shared} {Q : Value → Shared → Prop}, (∀ b o, h.get? b = some o → s.heap.get? b = some o) →
    (∀ (o : Obj) (fp : List Addr) (P : Nat → Value → Prop) (St : Nat → Heap → Prop), (∀ b ∈ fp, b = s.heap.objs.size ∨ b < h.objs.size) → (∀ i v, P i v → ∃ t, v = .str (xs.getD i Str.empty) t) →
      (∀ A' : Around, A'.handled = none → Walks prog w A' s.heap.objs.size fp [s.heap.objs.size] xs.length P St) → St 0 (s.heap.push o) → Q (.ref s.heap.objs.size) { s with heap := s.heap.push o }) → wpAny (model prog w) A (pyIter src) Q E s
theorem updFrom {src : Value} {xs : List Str} {s0 : Heap} {c : Addr} {id : String} {led : Bool} {Q : Unit → Shared → Prop} (hh : A.handled = none) (hs : Src prog w s0 src xs) (hb : xs.length < 4000) (up : ∀ b o, s0.get? b = some o → s.heap.get? b = some o) (hc : s0.objs.size ≤ c) (ho : s.heap.get? c = some (newSetO led))
    (h : ∀ (h' : Heap) (tk : Nat), h'.SetOf (PySem.strKind prog w) c (fun z => decide (z ∈ xs)) (ndc xs.reverse) → (∀ b o, b ≠ c → s.heap.get? b = some o → h'.get? b = some o) → Q () { s with heap := h', toks := tk }) :
    wpAny (model prog w) A (Builtin.Frozenset.updateFrom id c src) Q E s := by
  unfold Builtin.Frozenset.updateFrom
  refine wpAny_bind (hs.any up ?_)
  show wpAny _ _ (do let __do_lift ← typeOf src; _) _ _ _
  refine wpAny_bind (hs.ty up fun t ht => ?_)
  rw [ht]
  show wpAny _ _ (pyIter src >>= _) _ _ _
  refine wpAny_bind (hs.it up fun o fp P St hfp hv hW st => ?_)
  refine wpAny_bind (wpAny_runValue ?_)
  have lt : c < s.heap.objs.size := Heap.lt_size ho
  refine setLoop (hW _ (by simp [hh])) c ?_ xs rfl hb hv (xs.length - 0) 0 { s with heap := s.heap.push o } rfl (Nat.zero_le _) st ?_ fun h' tk k hS => ?_
  · intro z
    rcases hfp c z with e | e
    · exact Nat.ne_of_lt lt e
    · exact Nat.not_lt.mpr hc e
  · exact PyProof.Rows.SetOf_congr ((PyProof.Rows.setObjOf_fresh (knd := PySem.strKind prog w) led).setOf (Heap.get?_push_of_some o ho) (by unfold scanBound; omega)) (fun z => by simp) (by simp [ndc])
  · refine wpAny_pure (h h' tk hS fun b u nb e => k b u ?_ (Heap.get?_push_of_some o e))
    have := Heap.lt_size e
    simp only [List.mem_cons, List.not_mem_nil, or_false, not_or]
    exact ⟨nb, Nat.ne_of_lt this⟩
theorem call_setS {src : Value} {xs : List Str} {Q : Value → Shared → Prop} (hh : A.handled = none) (hs : Src prog w s.heap src xs) (hb : xs.length < 4000)
    (h : ∀ (h' : Heap) (tk : Nat), h'.SetOf (PySem.strKind prog w) s.heap.objs.size (fun z => decide (z ∈ xs)) (ndc xs.reverse) → (∀ b o, s.heap.get? b = some o → h'.get? b = some o) → Q (.ref s.heap.objs.size) { s with heap := h', toks := tk }) :
    wpAny (model prog w) A (call (.type "set") [src]) Q E s := by
  obtain ⟨c, tl, hmro⟩ := PySem.F.called_set.mro
  have q1 := PySem.F.called_set.made
  have q2 := PySem.F.called_set.sub
  have q3 := PySem.F.called_set.notType
  have q4 := PySem.F.called_set.canCreate
  have q5 := PySem.F.typeCall_set_1 src
  refine wpAny_call (codeAny_of_tree (show wpAny _ _ (callAny (.type "set") _) _ _ _ from wpAny_pure ⟨Code.quiet_builtin _ (by decide +kernel), codeAny_builtin PySem.F.entry_type_call ?_⟩))
  rw [Around.under_plain (weight_type_call_type "set" [src] []) rfl]
  repeat (any_goals (first | assumption | wp_step))
  refine codeAny_mono (code_set_new_1 src (E := E) (Q₁ := fun o s₁ => ∃ led : Bool, o = .ref s.heap.objs.size ∧ s₁ = { s with heap := s.heap.push (newSetO led) }) fun led => ⟨led, rfl, rfl⟩) fun r s₁ hr => ?_
  cases r with
  | error e => exact hr
  | ok fl =>
    cases fl with
    | ret o1 =>
      obtain ⟨led, rfl, rfl⟩ := hr
      have hS : (s.heap.push (newSetO led)).get? s.heap.objs.size = some (newSetO led) := Heap.get?_push_size _ rfl
      have hT : Shared.TypeIs { s with heap := s.heap.push (newSetO led) } (.ref s.heap.objs.size) "set" := ⟨_, hS, rfl⟩
      have q6 := PySem.F.called_set.init.lookup
      have q7 := PySem.F.called_set.init.bind (.ref s.heap.objs.size)
      repeat (any_goals (first | assumption | wp_step))
      refine codeAny_mono (codeAny_call_builtin (R := wants (fun r s₂ => r = .none ∧ ∃ h' tk, s₂ = { s with heap := h', toks := tk } ∧ h'.SetOf (PySem.strKind prog w) s.heap.objs.size (fun z => decide (z ∈ xs)) (ndc xs.reverse) ∧
          (∀ b o, s.heap.get? b = some o → h'.get? b = some o)) E) PySem.F.called_set.init.plain PySem.F.entry_set_init (check_set_init_1 hT ?_)) fun r₂ s₂ hr₂ => ?_
      · have up : ∀ b o, s.heap.get? b = some o → (s.heap.push (newSetO led)).get? b = some o := fun b o e => Heap.get?_push_of_some _ e
        unfold Builtin.«set.__init__» noKeywords
        generalize hPI : Builtin.Frozenset.updateFrom = UF
        wp_walk
        subst hPI
        refine updFrom (s := { s with heap := s.heap.push (newSetO led) }) (by simp [hh]) hs hb up (Nat.le_refl _) hS fun h' tk x1 x2 => ?_
        refine (show wpAny _ _ (ret Value.none) _ _ _ from wpAny_pure ⟨rfl, h', tk, rfl, x1, fun b o e => x2 b o (Nat.ne_of_lt (Heap.lt_size e)) (up b o e)⟩)
      · cases r₂ with
        | error e => exact hr₂
        | ok fl₂ =>
          cases fl₂ with
          | ret r =>
            obtain ⟨rfl, h', tk, rfl, x1, x2⟩ := hr₂
            repeat (any_goals (first | assumption | wp_step))
            exact h _ _ x1 x2
          | _ => exact hr₂.elim
    | _ => exact hr.elim
theorem src_str {h : Heap} (x : Str) (u : Tok) : Src prog w h (.str x u) (x.cps.toList.map fun c => ⟨#[c]⟩) where
  any := fun _ q => L2.Fz.anySet q
  ty := fun _ q => wpAny_typeOf (typeIs_str _ _ _) (q _ (by decide))
  it := fun {A E s Q} _ q => wpAny_pyIter_str fun o St hW st => by
    refine q o [s.heap.objs.size] (SignAt x) St (fun b hb => .inl (List.mem_singleton.mp hb)) (fun i v hv => ?_) (fun A' hA => ?_) st
    · obtain ⟨c, u, hc, e⟩ := hv
      refine ⟨u, ?_⟩
      rw [e, List.getD_eq_getElem?_getD, List.getElem?_map, Array.getElem?_toList, hc]
      rfl
    · have e : (x.cps.toList.map fun c => (⟨#[c]⟩ : Str)).length = x.cps.size := by simp
      rw [e]
      exact hW A' hA
theorem src_list {h : Heap} {l : Addr} {items : Array Value} {xs : List Str} (hl : h.IsList l items) (hx : StrsAre items.toList xs) : Src prog w h (.ref l) xs where
  any := fun {A E s Q} up q => by
    have T : s.TypeIs (.ref l) "list" := by
      obtain ⟨o, ho, hc, _⟩ := hl
      exact ⟨o, up _ _ ho, hc⟩
    unfold Builtin.Frozenset.isAnySet
    exact wpAny_bind (wpAny_isInstance T PySem.F.sub_list_set (show wpAny _ _ (isInstance (.ref l) (.type "frozenset")) _ _ _ from wpAny_isInstance T PySem.F.sub_list_frozenset q))
  ty := fun {A E s Q} up q => by
    have T : s.TypeIs (.ref l) "list" := by
      obtain ⟨o, ho, hc, _⟩ := hl
      exact ⟨o, up _ _ ho, hc⟩
    exact wpAny_typeOf T (q _ (by decide))
  it := fun {A E s Q} up q => by
    have hl2 : s.heap.IsList l items := hl.at fun o e => up _ _ e
    have hlt : l < h.objs.size := by
      obtain ⟨o, ho, _⟩ := hl
      exact Heap.lt_size ho
    have hlt2 : l < s.heap.objs.size := by
      obtain ⟨o, ho, _⟩ := hl2
      exact Heap.lt_size ho
    refine wpAny_pyIter_list hl2 (q _ [s.heap.objs.size, l] (fun i v => items[i]? = some v) (fun i h => h.IsListIter s.heap.objs.size l i ∧ h.IsList l items) (fun b hb => ?_) (fun i v hv => ?_) (fun A' hA => ?_) ?_)
    · simp only [List.mem_cons, List.not_mem_nil, or_false] at hb
      rcases hb with rfl | rfl
      · exact .inl rfl
      · exact .inr hlt
    · exact SS.strs_at hx i v (by rw [Array.getElem?_toList]; exact hv)
    · have e : xs.length = items.size := by rw [← StrsAre.len_eq hx, Array.length_toList]
      rw [e]
      exact Walks.list hA _ l (Nat.ne_of_lt hlt2) items
    · exact ⟨⟨_, Heap.get?_push_size _ rfl, rfl, rfl⟩, hl2.push _⟩
end
/-! ### the rule -/
def rSetN (K : PySem.W.Frag) (x : V) (H : Hp) (Q : VK) : Prop := (∃ l : List Nat, x = vS l ∧ l.length < 4000 ∧ Q (.int (ndc l.reverse : Nat)) H) ∨ (∃ (a : Addr) (ls : List (List Nat)), x = .ref a ∧ SqL K H a (ls.map vS) ∧ ls.length < 4000 ∧ Q (.int (ndc ls.reverse : Nat)) H)
def tLenSetS (K : PySem.W.Frag) (ta : TE) : TE := fun σ H Q => ta σ H fun x H1 => rSetN K x H1 Q
theorem ndc_map {α β : Type} [DecidableEq α] [DecidableEq β] (f : α → β) (hf : ∀ x y, f x = f y → x = y) : ∀ l : List α, ndc (l.map f) = ndc l
  | [] => rfl
  | x :: r => by
    rw [List.map_cons, ndc, ndc, ndc_map f hf r]
    have : f x ∈ r.map f ↔ x ∈ r := ⟨fun h => by
      obtain ⟨y, hy, e⟩ := List.mem_map.mp h
      rw [← hf _ _ e]; exact hy, fun h => List.mem_map_of_mem h⟩
    by_cases h : x ∈ r
    · rw [if_pos h, if_pos (this.mpr h)]
    · rw [if_neg h, if_neg fun z => h (this.mp z)]
theorem pe_lenSetS {X : Cx} {a : Expr} {ta : TE} {p p2 q pos : Pos} (hc : X.calm = true) (hg : Gl X "len") (hm : X.mg "len" = none) (hg2 : Gl X "set") (hm2 : X.mg "set" = none) (ha : PE X a ta)
    (na : starEach [a] X.env = (false, eval a X.env) :: starEach [] X.env := by rfl) : PE X (.Call (.Name "len" p) [.Call (.Name "set" p2) [a] [] q] [] pos) (tLenSetS X.K ta) := by
  refine ⟨fun pins s σ H Q I h => Call_ (ld_blt I hg hm boot_len ?_)⟩
  refine PyProof.Rows.callWith_builtin1 (PyProof.Rows.args_cons (Call_ (ld_blt I hg2 hm2 boot_set ?_)) rfl) rfl rfl
  refine PyProof.Rows.callWith_type1 (PyProof.Rows.args_cons (thn (ha.run pins s σ H _ I h) fun v s1 ⟨x, H1, I1, r1, q1⟩ => PyProof.Rows.args_nil ?_) na) na rfl
  have fin : ∀ (n : Nat) (xs : List Str), n < 4000 → ndc xs.reverse = n → Q (.int n) H1 → ∀ (h' : Heap) (tk : Nat), h'.SetOf (PySem.strKind X.prog X.w) s1.heap.objs.size (fun z => decide (z ∈ xs)) (ndc xs.reverse) → (∀ b o, s1.heap.get? b = some o → h'.get? b = some o) →
      wpAny (model X.prog X.w) X.A (spliced (backTo pos (starEach [] X.env))) (fun vs s₂ => wpAny (model X.prog X.w) X.A (call (.builtin "len") (Value.ref s1.heap.objs.size :: vs)) (EP X pins σ Q) X.xe s₂) X.xe { s1 with heap := h', toks := tk } := fun n xs hn en qn h' tk hS hk => by
    refine PyProof.Rows.args_nil ?_
    rw [en] at hS
    obtain ⟨o, es, ep, t, ho, hex, hd, _, _, _, hf, hz⟩ := hS
    have I2 : Inv X pins σ H1 { s1 with heap := h', toks := tk } := I1.kept hk
    exact call_len_set ho hex hd hf (by rw [hz]; omega) ⟨.int n, H1, I2.tok _, ⟨_, by rw [hz]⟩, qn⟩
  rcases q1 with ⟨l, rfl, hl, qq⟩ | ⟨b, ls, rfl, hq, hl, qq⟩
  · obtain ⟨u, rfl⟩ := r1
    have e1 : (S l).cps.toList = l := S_cps l
    have e2 : ndc ((S l).cps.toList.map fun c => (⟨#[c]⟩ : Str)).reverse = ndc l.reverse := by
      rw [e1, ← List.map_reverse]
      exact ndc_map _ (fun x y e => by simpa using e) _
    have hle := ndc_le l.reverse
    rw [List.length_reverse] at hle
    refine call_setS (I1.ok.hd hc) (src_str (S l) u) (by rw [e1, List.length_map]; exact hl) (fin (ndc l.reverse) _ (by omega) e2 qq)
  · obtain rfl : v = Value.ref b := r1
    obtain ⟨its, rv, pl, hz⟩ := I1.list hq
    have hst : StrsAre its (ls.map S) := strsAre_of (by rw [List.map_map]; exact rv)
    have e2 : ndc (ls.map S).reverse = ndc ls.reverse := by
      rw [← List.map_reverse]
      exact ndc_map _ (fun x y e => S_inj e) _
    have hle := ndc_le ls.reverse
    rw [List.length_reverse] at hle
    exact call_setS (I1.ok.hd hc) (src_list pl.isList (by simpa using hst)) (by rw [List.length_map]; exact hl) (fin (ndc ls.reverse) _ (by omega) e2 qq)
end WB
/-! the truth of own things: by __len__, by __bool__, by neither -/
namespace WB
open PySem PySem.Spec PyProof.Rows L2
section
variable {prog : Program} {w : World} {A : Around} {E : Value → Shared → Prop} {s : Shared} {K : PySem.W.Frag} {x C L f : Addr} {h₀ : Heap} {m : Str → Option Value} {ox : Obj} {od : Option Obj}
theorem bool_made {v : Value} {Q : Value → Shared → Prop} (h : wpAny (model prog w) A.in1.in1 (truthy v) (fun c s' => Q (.bool c) s') E s) : wpAny (model prog w) A (call (.type "bool") [v]) Q E s := by
  refine callType_newIn F.called_bool F.newNe_bool (F.typeCall_bool_1 v) (F.newCall_bool_1 v) (fun o => F.args_object_init_2 o v) F.entry_bool_new
    (S := fun A' R s' => wpAny (model prog w) A'.in1 (truthy v) (fun c s2 => R (.ok (.ret (.bool c))) s2) (fun e s2 => R (.error e) s2) s')
    (.of_wp fun A' R s' hs => ?_) (wpAny_mono h (fun c s' z => ⟨rfl, z⟩) fun _ _ z => z)
  have f1 := F.conv_sub_bool
  have hs2 : wpAny (model prog w) A'.in1 (truthy v) (fun c s2 => R (.ok (.ret (.bool c))) s2) (fun e s2 => R (.error e) s2) s' := hs
  generalize hT : truthy = T at hs2
  unfold Builtin.«bool.__new__»
  rw [hT]
  repeat (any_goals (first | assumption | with_reducible refine wpAny_bind (wpAny_mono hs2 (fun c s2 z => ?_) fun _ _ z => z) | wp_step))
  all_goals first | exact ⟨_, rfl, z⟩ | exact wpAny_pure ⟨_, rfl, z⟩ | skip
end
section
variable {X : Cx} {CX : CXT} {k : Nat} {f C : Addr} {fd : FuncData} {ps : List Str} {sp : Sp} {E : XK}
/-- by neither -/
def rBoolN (C : Addr) : List V → Hp → VK → Prop := fun xs H Q => ∃ a dx fs, xs = [.ref a] ∧ H a = some (.ins C dx fs) ∧ Q (.bl true) H
theorem call_boolN' (hn : PySem.W.findIn X.K (.ref C) "__bool__" = some none) (hl : PySem.W.findIn X.K (.ref C) "__len__" = some none) : CallR X (.type "bool") (rBoolN C) := by
  intro pins s σ H xs us Q I r h
  obtain ⟨a, dx, fs, rfl, ha, q⟩ := h
  obtain ⟨u, rfl, ru⟩ := vals1 r
  cases ru
  obtain ⟨ox, od, J⟩ := inst_at I ha
  obtain ⟨m, hF⟩ := I.fr
  exact bool_made (PySem.W.truthy_K0 hF I.ok.mod.kin J hn hl ⟨.bl true, H, I, rfl, q⟩)
end
end WB
namespace WB
open PySem PySem.Spec PyProof.Rows L2
theorem eqV_S {a b : List Nat} : eqV (vS a) (vS b) = decide (a = b) := by
  show (S a == S b) = decide (a = b)
  rw [Bool.eq_iff_iff, beq_iff_eq, decide_eq_true_iff]
  exact ⟨S_inj, fun e => by rw [e]⟩
theorem inV_S {x : List Nat} {ls : List (List Nat)} : inV (vS x) (ls.map vS) = decide (x ∈ ls) := by
  unfold inV
  rw [List.any_map, Bool.eq_iff_iff, List.any_eq_true, decide_eq_true_iff]
  constructor
  · rintro ⟨y, hy, e⟩
    have e : eqV (vS y) (vS x) = true := e
    rw [eqV_S] at e
    rw [← of_decide_eq_true e]; exact hy
  · intro h
    exact ⟨x, h, by show eqV (vS x) (vS x) = true; rw [eqV_S]; simp⟩
theorem flat_S : ∀ ls : List (List Nat), (ls.map vS).all flatV = true
  | [] => rfl
  | x :: r => by rw [List.map_cons, List.all_cons, flat_S r]; rfl
section
variable {K : PySem.W.Frag} {H : Hp} {Q : VK} {E : XK}
theorem s_notInL {a : Addr} {x : List Nat} {ls : List (List Nat)} (h : SqL K H a (ls.map vS)) (k : Q (.bl (!decide (x ∈ ls))) H) : rIn K true (vS x) (.ref a) H Q := ⟨a, _, rfl, .inl h, rfl, flat_S ls, by rw [inV_S]; exact k⟩
theorem s_inL {a : Addr} {x : List Nat} {ls : List (List Nat)} (h : SqL K H a (ls.map vS)) (k : Q (.bl (decide (x ∈ ls))) H) : rIn K false (vS x) (.ref a) H Q := ⟨a, _, rfl, .inl h, rfl, flat_S ls, by rw [inV_S]; exact k⟩
theorem s_notInT {a : Addr} {x : List Nat} {ls : List (List Nat)} (h : SqT K H a (ls.map vS)) (k : Q (.bl (!decide (x ∈ ls))) H) : rIn K true (vS x) (.ref a) H Q := ⟨a, _, rfl, .inr h, rfl, flat_S ls, by rw [inV_S]; exact k⟩
theorem s_inT {a : Addr} {x : List Nat} {ls : List (List Nat)} (h : SqT K H a (ls.map vS)) (k : Q (.bl (decide (x ∈ ls))) H) : rIn K false (vS x) (.ref a) H Q := ⟨a, _, rfl, .inr h, rfl, flat_S ls, by rw [inV_S]; exact k⟩
theorem s_lenSet {ta : TE} {σ : St} (k : ta σ H fun x H1 => rSetN K x H1 Q) : tLenSetS K ta σ H Q := k
theorem s_setNS {l : List Nat} (hl : l.length < 4000) (k : Q (.int (ndc l.reverse : Nat)) H) : rSetN K (vS l) H Q := .inl ⟨l, rfl, hl, k⟩
end
end WB
/-! sorted(..) of texts: of a text, a tuple, a list -/
namespace WB
open PySem PySem.Spec PyProof.Rows L2
/-- in order -/
def srt (ls : List (List Nat)) : List (List Nat) := ls.mergeSort fun a b => decide (a ≤ b)
theorem srt_perm (ls : List (List Nat)) : (srt ls).Perm ls := List.mergeSort_perm _ _
theorem srt_pair (ls : List (List Nat)) : (srt ls).Pairwise (· ≤ ·) := by
  have h := List.pairwise_mergeSort (le := fun a b : List Nat => decide (a ≤ b)) (fun a b c h1 h2 => decide_eq_true (List.le_trans (of_decide_eq_true h1) (of_decide_eq_true h2))) (fun a b => by
    rcases List.le_total a b with h | h
    · simp [h]
    · simp [h]) ls
  exact h.imp fun h => of_decide_eq_true h
theorem srt_unique {ys ls : List (List Nat)} (p : ys.Perm ls) (h : ys.Pairwise (· ≤ ·)) : ys = srt ls :=
  (p.trans (srt_perm ls).symm).eq_of_pairwise (fun a b _ _ h1 h2 => List.le_antisymm h1 h2) h (srt_pair ls)
theorem srt_len (ls : List (List Nat)) : (srt ls).length = ls.length := (srt_perm ls).length_eq
theorem srt_of_perm {ls ms : List (List Nat)} (p : ls.Perm ms) : srt ls = srt ms := srt_unique ((srt_perm ls).trans p) (srt_pair ls)
theorem rising_pair : ∀ (r : List (List Nat)) (x : List Nat), risingS (S x) (r.map S) = true → (x :: r).Pairwise (· ≤ ·)
  | [], x, _ => by simp
  | y :: r, x, h => by
    rw [List.map_cons, risingS, Bool.and_eq_true, S_cps, S_cps, ltCps_eq] at h
    have h1 : x ≤ y := by
      have : ¬ y < x := by simpa using h.1
      exact List.not_lt.mp this
    have h2 := rising_pair r y h.2
    refine List.pairwise_cons.mpr ⟨fun z hz => ?_, h2⟩
    rcases List.mem_cons.mp hz with rfl | hz
    · exact h1
    · exact List.le_trans h1 ((List.pairwise_cons.mp h2).1 z hz)
theorem sortedS_pair {ls : List (List Nat)} (h : sortedS (ls.map S) = true) : ls.Pairwise (· ≤ ·) := by
  cases ls with
  | nil => simp
  | cons x r => exact rising_pair r x h
theorem perm_S {ys : List Str} {ls : List (List Nat)} (p : ys.Perm (ls.map S)) : ∃ ms : List (List Nat), ys = ms.map S ∧ ms.Perm ls := by
  refine ⟨ys.map fun z => z.cps.toList, ?_, ?_⟩
  · rw [List.map_map]
    conv => lhs; rw [← List.map_id ys]
    exact List.map_congr_left fun z _ => S_of z
  · have h := p.map fun z : Str => z.cps.toList
    rw [List.map_map] at h
    have e : ls.map ((fun z : Str => z.cps.toList) ∘ S) = ls := by
      conv => rhs; rw [← List.map_id ls]
      exact List.map_congr_left fun z _ => S_cps z
    rw [e] at h
    exact h
theorem srt_S {ys : List Str} {ls : List (List Nat)} (p : ys.Perm (ls.map S)) (h : sortedS ys = true) : ys.map V.str = (srt ls).map vS := by
  obtain ⟨ms, rfl, pm⟩ := perm_S p
  rw [srt_unique pm (sortedS_pair h), List.map_map]
  rfl
/-- what sorted takes: a text, a list or a tuple of texts -/
def SrcV (K : PySem.W.Frag) (H : Hp) (x : V) (ls : List (List Nat)) : Prop := (∃ l : List Nat, x = vS l ∧ ls = l.map fun c => [c]) ∨ (∃ a, x = .ref a ∧ (SqL K H a (ls.map vS) ∨ SqT K H a (ls.map vS)))
def rSrt (K : PySem.W.Frag) : List V → Hp → VK → Prop := fun xs H Q => ∃ (x : V) (ls : List (List Nat)), xs = [x] ∧ SrcV K H x ls ∧ ls.length < 64 ∧ ∀ p, H p = none → Q (.ref p) (upd H p (.lst ((srt ls).map vS)))
section
variable {X : Cx}
theorem collect_src {pins : List (Addr × Obj)} {σ : L2.St} {H : Hp} {s : Shared} {A : Around} {E : Value → Shared → Prop} {x : V} {v : Value} {ls : List (List Nat)} {R : List Value → Shared → Prop} (I : Inv X pins σ H s) (hh : A.handled = none) (rx : RelV x v) (hs : SrcV X.K H x ls) (h64 : ls.length < 64)
    (h : ∀ (h' : Heap) (tk : Nat) (its : List Value), (∀ b o, s.heap.get? b = some o → h'.get? b = some o) → StrsAre its (ls.map S) → R its { s with heap := h', toks := tk }) : wpAny (model X.prog X.w) A (collect v) R E s := by
  rcases hs with ⟨l, rfl, rfl⟩ | ⟨a, rfl, hq | hq⟩
  · obtain ⟨t, rfl⟩ := rx
    have hz : (S l).cps.size = l.length := by simp [S]
    rw [List.length_map] at h64
    refine wpAny_collect_str hh (S l) t (fun s' acc k g d os hi => ?_) (by rw [hz, sizeLine_eq]; omega)
    obtain ⟨h', g', d', t', o'⟩ := s'
    cases g
    cases d
    cases os
    refine h h' t' acc.toList k (L2.strs_at (by rw [Array.length_toList, hi.1, List.length_map, List.length_map, hz]) fun j v e => ?_)
    obtain ⟨c, u, hc, ev⟩ := hi.2 j v (by rw [← Array.getElem?_toList]; exact e)
    have hc : l[j]? = some c := by simpa [S] using hc
    exact ⟨S [c], u, by rw [List.getElem?_map, List.getElem?_map, hc]; rfl, ev⟩
  · obtain rfl : v = Value.ref a := rx
    obtain ⟨its, rv, pl, hz⟩ := I.list hq
    obtain ⟨o, ho, hc, n, hd⟩ := pl.isList
    have hst : StrsAre its (ls.map S) := strsAre_of (by rw [List.map_map]; exact rv)
    have e : its.toArray.size = ls.length := by rw [List.size_toArray, ← rv.length, List.length_map]
    exact wpAny_collect_seq a (.inl rfl) ho hc hd (fun h' k => h h' s.toks _ k (by simpa using hst)) (by rw [e, sizeLine_eq]; omega)
  · obtain rfl : v = Value.ref a := rx
    obtain ⟨its, rv, ⟨o, ho, hc, n, hd⟩, hz⟩ := I.tuple hq
    have hst : StrsAre its (ls.map S) := strsAre_of (by rw [List.map_map]; exact rv)
    have e : its.toArray.size = ls.length := by rw [List.size_toArray, ← rv.length, List.length_map]
    exact wpAny_collect_seq a (.inr rfl) ho hc hd (fun h' k => h h' s.toks _ k (by simpa using hst)) (by rw [e, sizeLine_eq]; omega)
theorem cr_srt (hcalm : X.calm = true) : CallR X (.builtin "sorted") (rSrt X.K) := by
  intro pins s σ H xs us Q I r q
  obtain ⟨x, ls, rfl, hs, h64, q⟩ := q
  obtain ⟨u, rfl, rx⟩ := vals1 r
  refine Calls.call_function_entry PyProof.Rows.kind_sorted PyProof.Rows.plain_sorted PyProof.Rows.entry_sorted (PyProof.Rows.args_sorted1 _) ?_
  unfold Builtin.«sorted»
  refine wpAny_bind (m := checkCount "sorted" 1 1 _) (wpAny_pure (wpAny_bind (collect_src (A := X.A.in1) I (I.ok.hd hcalm) rx hs h64 fun h' tk its hk hS => ?_)))
  have hal : its.length = ls.length := by rw [StrsAre.len_eq hS, List.length_map]
  have I1 : Inv X pins σ H { s with heap := h', toks := tk } := I.kept hk
  refine wpAny_bind (wpAny_newList ?_ (by rw [hal, sizeLine_eq]; omega))
  have hoL : (h'.push (seqObj "list" its.toArray 0)).get? h'.objs.size = some (seqObj "list" its.toArray 0) := Heap.get?_push_size _ rfl
  show wpAny _ _ _ _ _ { s with heap := h'.push (seqObj "list" its.toArray 0), toks := tk }
  refine wpAny_bind (wpAny_holding (wpAny_call_entry PyProof.Rows.slot_list_sort ⟨_, hoL, rfl⟩ PyProof.Rows.entry_list_sort (list_sort_treeK strKind_oneLt (s := { s with heap := h'.push (seqObj "list" its.toArray 0), toks := tk }) hoL hS.keysOf (fun v₁ v₂ rest e => keyKind_strs (by rw [← e]; exact hS)) (by rw [hal]; exact h64)
    fun st' hp hs => ⟨_, rfl, ?_⟩) (PyProof.Rows.args_list_sort _)))
  obtain ⟨ys, g1, g2, g3⟩ := sorted_out_str hS hp hs
  obtain ⟨e', he'⟩ := PyProof.Rows.sortedHeap_at (vs := its) (out := (arrOf st').map (·.2)) hoL
  have ey := srt_S g2 g3
  have hlen : (ys.map V.str).length ≤ sizeLine := by
    rw [ey, List.length_map, srt_len]
    exact Nat.le_trans (Nat.le_of_lt h64) (by decide)
  have q1 := q _ (I1.hok.fresh (Nat.le_refl h'.objs.size))
  rw [← ey] at q1
  refine wpAny_pure ⟨_, rfl, .ref h'.objs.size, upd H h'.objs.size (.lst (ys.map V.str)), I1.laid (t' := tk) (fun b o e => ?_) (Nat.le_refl _) (show ObjOk X.prog X.w _ _ _ (.lst (ys.map V.str)) from ⟨hlen, ((arrOf st').map (·.2)).toList, e', vals_of_strs g1, by rw [Array.toArray_toList]; exact he'⟩), rfl, q1⟩
  have hb : b < h'.objs.size := Heap.lt_size e
  rw [PyProof.Rows.sortedHeap_old (Nat.ne_of_lt hb) (by rw [size_push']; exact Nat.lt_succ_of_lt hb)]
  exact Heap.get?_push_of_some _ e
end
section
variable {K : PySem.W.Frag} {H : Hp} {Q : VK}
theorem s_srtS {l : List Nat} (h : l.length < 64) (k : ∀ p H2, H p = none → Ex [] H H2 → H2 p = some (.lst ((srt (l.map fun c => [c])).map vS)) → Q (.ref p) H2) : rSrt K [vS l] H Q := ⟨_, _, rfl, .inl ⟨l, rfl, rfl⟩, by rw [List.length_map]; exact h, s_new k⟩
end
end WB
/-! for i, x in enumerate(a tuple) -/
namespace WB
open PySem PySem.Spec PyProof.Rows L2
section
variable {prog : Program} {w : World} {A : Around} {E : Value → Shared → Prop} {s : Shared}
abbrev tupIt (l : Addr) : Obj := { cls := .type "tuple_iterator", data := .fields #[.ref l, .int 0 0] }
abbrev enumO (it : Addr) : Obj := { cls := .type "enumerate", data := .fields #[.none, .bool false, .ref it, rawInt 0, .none, .none] }
theorem meets_enumT (l : Addr) (items : Array Value) (n : Nat) (dct : Option Addr) (sl : Array (Option Value)) :
    Meets (Builtin.«enumerate.__new__» ⟨[.type "enumerate", .ref l], []⟩) (fun _ R s => s.heap.get? l = some { cls := .type "tuple", dict := dct, data := .seq items n, slots := sl } ∧
      R (.ok (.ret (.ref (s.heap.push (tupIt l)).objs.size))) { s with heap := (s.heap.push (tupIt l)).push (enumO s.heap.objs.size) }) :=
  .of_wp fun prog w A R s h => by
    obtain ⟨hp, g, d, tk, os⟩ := s
    obtain ⟨hl, h⟩ := h
    have f1 := sub_enumerate
    have hL : Heap.IsTuple (Shared.heap ⟨hp, g, d, tk, os⟩) l items := ⟨_, hl, rfl, n, rfl⟩
    wp_walk using wpAny_loadPart' hl
    refine wpAny_stack_any fun st => wpAny_pure ?_
    split
    · rename_i c _ _ _ _ _
      cases (c == Value.type "enumerate")
      · wp_walk using wpAny_loadPart' hl, wpAny_pyIter_tuple hL
        exact ⟨_, rfl, h⟩
      · wp_walk using wpAny_loadPart' hl, wpAny_pyIter_tuple hL
        exact ⟨_, rfl, h⟩
    · wp_walk using wpAny_loadPart' hl, wpAny_pyIter_tuple hL
      exact ⟨_, rfl, h⟩
theorem call_enumT {l : Addr} {items : Array Value} {Q : Value → Shared → Prop} (hL : s.heap.IsTuple l items)
    (h : ∀ h', IsEnum h' (s.heap.objs.size + 1) s.heap.objs.size 0 .none → h'.IsTupleIter s.heap.objs.size l 0 → (∀ b o, s.heap.get? b = some o → h'.get? b = some o) → Q (.ref (s.heap.objs.size + 1)) { s with heap := h' }) :
    wpAny (model prog w) A (call (.type "enumerate") [.ref l]) Q E s := by
  obtain ⟨⟨c, dct, dt, sl⟩, hl, hc, n, hd⟩ := hL
  replace hc : c = .type "tuple" := hc
  replace hd : dt = .seq items n := hd
  subst hc hd
  refine callType_new F.called_enumerate (by decide) (F.typeCall_enumerate_1 _) (F.newCall_enumerate_1 _) (fun o => F.args_object_init_2 o _) F.entry_enumerate_new (meets_enumT l items n dct sl) ⟨hl, ?_⟩
  have hz : (s.heap.push (tupIt l)).objs.size = s.heap.objs.size + 1 := Heap.size_push ..
  show _ ∧ _
  rw [hz]
  have he : IsEnum ((s.heap.push (tupIt l)).push (enumO s.heap.objs.size)) (s.heap.objs.size + 1) s.heap.objs.size 0 .none := by
    have := Heap.get?_push_size (s.heap.push (tupIt l)) (o := enumO s.heap.objs.size) rfl
    rw [hz] at this
    exact this
  exact ⟨⟨_, he, rfl⟩, h _ he ⟨_, Heap.get?_push_of_some _ (Heap.get?_push_size _ rfl), rfl, rfl⟩ fun b o x => Heap.get?_push_of_some _ (Heap.get?_push_of_some _ x)⟩
theorem enum_endT {e it l : Addr} {i : Nat} {items : Array Value} {old : Value} {Q : Option Value → Shared → Prop} (hh : A.handled = none) (he : IsEnum s.heap e it i old) (hit : s.heap.IsTupleIter it l i) (hl : s.heap.IsTuple l items) (hx : items[i]? = none)
    (k : ∀ h', Heap.ExtBut it s.heap h' → Q none { s with heap := h' }) : wpAny (model prog w) A (pyNext (.ref e)) Q E s := by
  have T : s.TypeIs (.ref e) "enumerate" := ⟨_, he, rfl⟩
  unfold pyNext
  refine wpAny_bind (wpAny_attempt (wpAny_callSpecial?_slot (name := Str.ofString "__next__") T F.slot_enumerate_next (wpAny_call_entry F.slot_enumerate_next T F.entry_enumerate_next ?_ (F.args_enumerate_next_1 _))))
  show wpAny _ _ (field (.ref e) 2 >>= _) _ _ _
  refine wpAny_bind (wpAny_field he rfl (x := .ref it) rfl (wpAny_bind (wpAny_nextOf_tuple_end hh hit hl hx fun h' x x1 x2 => ?_)))
  obtain ⟨o, ho, hc⟩ := x2
  exact wpAny_bind (wpAny_isInstance (T := "StopIteration") (b := true) ⟨o, ho, hc⟩ isSubtype_stop (wpAny_pure (k _ x1)))
end
def IteT (K : PySem.W.Frag) (a : Addr) : It :=
  ⟨fun i H => ∃ (xs : List V) (x : V), SqT K H a xs ∧ xs[i]? = some x, fun i H v H' => ∃ T x, v = .ref T ∧ H T = none ∧ H' = upd H T (.tup [.int (i : Nat), x]) ∧ ∀ xs, SqT K H a xs → xs[i]? = some x, fun i H => ∃ xs : List V, SqT K H a xs ∧ xs.length ≤ i⟩
theorem turn_enumT {P : Program} {w : World} {K : PySem.W.Frag} {elts : List Expr} {kk : Nat} {tpos : Pos} (a e it : Addr) :
    Turn P w K (.Tuple elts kk tpos) (IteT K a) [e, it] e (fun i h => (∃ old, IsEnum h e it ((i : Nat) : Int) old) ∧ h.IsTupleIter it a i ∧ e ≠ it ∧ a ≠ it ∧ e ≠ a) where
  mem := by simp
  obj := fun i h st b hb => by
    obtain ⟨⟨old, he⟩, ⟨o, ho, hc, hd⟩, _⟩ := st
    have e' : b = e ∨ b = it := by simpa using hb
    rcases e' with z | z
    · rw [z]; exact ⟨_, he, fun v q => nomatch q⟩
    · rw [z]; exact ⟨o, ho, fun v q => by rw [hd] at q; cases q⟩
  keep := fun i h h' st k => let ⟨⟨old, he⟩, hi, r⟩ := st; ⟨⟨old, k e (by simp) _ he⟩, hi.at fun o q => k it (by simp) o q, r⟩
  item := by
    intro X hP hw hK hc i pins s σ H E I hf st hg
    subst hP hw hK
    obtain ⟨⟨old, he⟩, hit, ne1, ne2, ne3⟩ := st
    obtain ⟨xs, x, hq, hx⟩ := hg
    obtain ⟨its, rv, p, hz⟩ := I.tuple hq
    obtain ⟨u, hu, ru⟩ := rv.get hx
    have hel : e < s.heap.objs.size := Heap.lt_size he
    have hil : it < s.heap.objs.size := by obtain ⟨_, q, _⟩ := hit; exact Heap.lt_size q
    have lt : i < its.toArray.size := by
      have := (List.getElem?_eq_some_iff.mp hu).1
      simpa using this
    refine wpAny_pyNext_enum_itemD (Draws.tuple (by simp [I.ok.hd hc]) it a ne2 its.toArray) he ⟨hit, p⟩ lt ne1 (by simp only [List.mem_cons, List.not_mem_nil, or_false, not_or]; exact ⟨ne1, ne3⟩) fun v h' tk hv ho hit' hT hsz hk => ?_
    have hv : its.toArray[i]? = some v := hv
    have ev : v = u := by
      have h2 : its.toArray[i]? = some u := by simpa using hu
      rw [h2] at hv
      exact (Option.some.inj hv).symm
    subst ev
    refine ⟨_, rfl, wpAny_letOwnedTupleGo_enum (s := { s with heap := h', toks := tk + 1 }) ho fun h'' he' sb => ?_⟩
    have hT2 : h''.get? s.heap.objs.size = some { cls := .type "tuple", data := .seq #[.int i tk, v] } := (sb.2 _ (Nat.ne_of_gt hel)).trans hT
    have new : ObjOk X.prog X.w (upd H s.heap.objs.size (.tup [.int (i : Nat), x])) h'' s.heap.objs.size (.tup [.int (i : Nat), x]) := ⟨by show 2 ≤ sizeLine; decide, [.int i tk, v], .cons ⟨_, rfl⟩ (.cons ru .nil), ⟨_, hT2, rfl, _, rfl⟩⟩
    have I1 : Inv X pins σ (upd H s.heap.objs.size (.tup [.int (i : Nat), x])) { s with heap := h'', toks := tk + 1 } :=
      I.turnedNew (ch := [e, it]) (fun b ob hb q => (sb.2 b (fun z => hb (by simp [z]))).trans (hk b ob (fun z => hb (by simp [z])) (fun z => hb (by simp [z])) q)) hf (Nat.le_refl _) new
    refine ⟨.ref s.heap.objs.size, _, I1, rfl, ⟨_, x, rfl, I.hok.fresh (Nat.le_refl _), rfl, fun ys hy => by rw [I.tuple_inj hy hq]; exact hx⟩, ⟨⟨v, ?_⟩, hit'.1.at fun o q => (sb.2 it (Ne.symm ne1)).trans q, ne1, ne2, ne3⟩, fun b hb => ?_⟩
    · have e1 : ((i + 1 : Nat) : Int) = (i : Int) + 1 := by omega
      rw [e1]; exact he'
    · have hb' : b < s.heap.objs.size := by
        have e' : b = e ∨ b = it := by simpa using hb
        rcases e' with z | z
        · rw [z]; exact hel
        · rw [z]; exact hil
      rw [upd_ne (Nat.ne_of_lt hb')]
      exact (hf b hb).1
  done := by
    intro X hP hw hK hc i pins s σ H E I hf st hg
    subst hP hw hK
    obtain ⟨⟨old, he⟩, hit, ne1, ne2, ne3⟩ := st
    obtain ⟨xs, hq, hx⟩ := hg
    obtain ⟨its, rv, p, hz⟩ := I.tuple hq
    obtain ⟨f0, f1, f2, f3, f4, f5⟩ := hf it (by simp)
    have hl := rv.length
    refine enum_endT (I.ok.hd hc) he hit p (by simp; omega) fun h' eb => ⟨rfl, I.turned (t' := s.toks) (fun b o hb q => eb b o hb q) f0 f1 f3 f4 f5⟩
  self := fun A i s Q E st h => let ⟨⟨_, he⟩, _⟩ := st; wpAny_pyIter_enum he h
def iEnumT (K : PySem.W.Frag) (ta : TA) : TI := fun σ H R => ta σ H fun vs H1 => ∃ a xs, vs = [.ref a] ∧ SqT K H1 a xs ∧ R (IteT K a) H1
theorem pi_enumT {X : Cx} {e : Expr} {ta : TA} {p pos tpos : Pos} {elts : List Expr} {kk : Nat} (hg : Gl X "enumerate") (hm : X.mg "enumerate" = none) (ha : PA X [e] ta) (hs : starEach [e] X.env = [(false, eval e X.env)] := by rfl) :
    PI X (.Tuple elts kk tpos) (.Call (.Name "enumerate" p) [e] [] pos) (iEnumT X.K ta) := by
  refine ⟨fun pins s σ H R I h => Call_ (ld_blt I hg hm boot_enumerate (PyProof.Rows.callWith_type1 (thn (ha.run pos pins s σ H _ I h) fun us s1 ⟨vs, H1, I1, r1, q1⟩ => ?_) hs rfl))⟩
  obtain ⟨a, xs, rfl, hq, q⟩ := q1
  obtain ⟨u, rfl, ru⟩ := vals1 r1
  cases ru
  obtain ⟨its, rv, p', hz⟩ := I1.tuple hq
  have lt : a < s1.heap.objs.size := by obtain ⟨o, ho, _⟩ := p'; exact Heap.lt_size ho
  refine call_enumT p' fun h' he hit hk => wpAny_pyIter_enum he ?_
  have I2 : Inv X pins σ H1 { s1 with heap := h' } := I1.kept (t' := s1.toks) hk
  refine ⟨s1.heap.objs.size + 1, [s1.heap.objs.size + 1, s1.heap.objs.size], _, _, H1, rfl, I2, turn_enumT a (s1.heap.objs.size + 1) s1.heap.objs.size, ⟨⟨.none, he⟩, hit, Nat.succ_ne_self _, Nat.ne_of_lt lt, Nat.ne_of_gt (Nat.lt_succ_of_lt lt)⟩, fun b hb => ?_, q⟩
  have e' : b = s1.heap.objs.size + 1 ∨ b = s1.heap.objs.size := by simpa using hb
  have hle : s1.heap.objs.size ≤ b := by
    rcases e' with z | z
    · rw [z]; exact Nat.le_succ _
    · rw [z]; exact Nat.le_refl _
  exact I1.fpOk hle (I1.hok.fresh hle)
theorem walk_enumT {K : PySem.W.Frag} {a : Addr} {xs : List V} : Walk (IteT K a) xs.length (fun H => SqT K H a xs) (YPair (fun i => some (.int (i : Nat))) (fun i => xs[i]?)) := by
  refine ⟨fun i _ hi q => ⟨xs, xs[i], q, by simp [hi]⟩, fun _ q => ⟨xs, q, Nat.le_refl _⟩, fun i H v H' _ q y => ?_⟩
  obtain ⟨T, x, h1, h2, h3, h4⟩ := y
  exact ⟨T, .int (i : Nat), x, h1, h2, h3, rfl, h4 xs q⟩
theorem s_enumT {K : PySem.W.Frag} {ta : TA} {σ : L2.St} {H : Hp} {R : It → Hp → Prop} (k : ta σ H fun vs H1 => ∃ a xs, vs = [.ref a] ∧ SqT K H1 a xs ∧ R (IteT K a) H1) : iEnumT K ta σ H R := k
theorem s_enumTA {K : PySem.W.Frag} {a : Addr} {xs : List V} {H : Hp} {C : Addr → Prop} (h : SqT K H a xs) (k : C a) : ∃ b ys, [V.ref a] = [V.ref b] ∧ SqT K H b ys ∧ C b := ⟨a, xs, rfl, h, k⟩
end WB
namespace WB
open PySem PySem.Spec PyProof.Rows L2
/-! ### kinds: plain -/
def sgn (s : List Nat) : List Nat := (srt (s.map fun c => [c])).flatten
def goodS (s : List Nat) : Prop := isWord s LET = true ∧ s.length ≤ 4 ∧ s.Nodup
/-! ### what is known of the class Kind -/
structure KindK (K : PySem.W.Frag) : Prop where
  cl : Cls K (He.ga K "Kind")
  na1 : NoAttr K (He.ga K "Kind") "letters"
  na2 : NoAttr K (He.ga K "Kind") "allowed"
  ty : ∀ (H : Hp) (a dx : Addr) (fs : List (Str × V)), H a = some (.ins (He.ga K "Kind") dx fs) → TyX K H (.ref a) (.ref (He.ga K "Kind"))
  me : PySem.W.kitOne K (.ref (He.ga K "Kind")) (.ref (He.ga K "Kind")) = some true
  no : ∀ n ∈ KD, PySem.W.kitOne K (.type n) (.ref (He.ga K "Kind")) = some false
  nr : PySem.W.kitOne K (.ref (He.ga K "Kind")) (.ref (He.ga K "Ring")) = some false
  rn : PySem.W.kitOne K (.ref (He.ga K "Ring")) (.ref (He.ga K "Kind")) = some false
def KindAt (K : PySem.W.Frag) (H : Hp) (a : Addr) (l : List Nat) (ps : List (List Nat)) : Prop := ∃ dx t, H a = some (.ins (He.ga K "Kind") dx [("letters", vS l), ("allowed", .ref t)]) ∧ SqT K H t (ps.map vS)
section
variable {K : PySem.W.Frag} {H H' : Hp} {a p : Addr} {l : List Nat} {ps : List (List Nat)} {Q : VK} {E : XK}
theorem KindAt.ex0 (e : Ex [] H H') (h : KindAt K H a l ps) : KindAt K H' a l ps := by
  obtain ⟨dx, t, h1, h2⟩ := h
  exact ⟨dx, t, e a _ (by simp) h1, e.sqT (by simp) h2⟩
/-- a tuple is no list -/
theorem sqT_pool {t : Addr} {xs : List V} (hp : PoolAt H p) (e : Ex [p] H H') (h : SqT K H t xs) : SqT K H' t xs := by
  obtain ⟨x, y, z, hp⟩ := hp
  rcases h with (h | ⟨o, h⟩) | h
  · exact e.sqT (by simp only [List.mem_singleton]; intro w; rw [w, hp] at h; cases h) (.inl (.inl h))
  · exact e.sqT (by simp only [List.mem_singleton]; intro w; rw [w, hp] at h; cases h) (.inl (.inr ⟨o, h⟩))
  · exact .inr h
theorem KindAt.exP (hp : PoolAt H p) (e : Ex [p] H H') (h : KindAt K H a l ps) : KindAt K H' a l ps := by
  obtain ⟨dx, t, h1, h2⟩ := h
  refine ⟨dx, t, e a _ ?_ h1, sqT_pool hp e h2⟩
  obtain ⟨x, y, z, hp⟩ := hp
  simp only [List.mem_singleton]
  intro w
  rw [w, hp] at h1
  cases h1
/-! ### promises -/
def sp_check_signs (K : PySem.W.Frag) : Sp := fun vs H Q _ => ∃ s : List Nat, vs = [vS s] ∧ goodS s ∧ ∀ H', Ex [] H H' → Q .non H'
theorem u_check_signs {s : List Nat} (h : goodS s) (k : ∀ H', Ex [] H H' → Q .non H') : sp_check_signs K ([vS s] ++ []) H Q E := ⟨_, rfl, h, k⟩
/-! steps -/
def rTupOf (K : PySem.W.Frag) : List V → Hp → VK → Prop := fun xs H Q => ∃ p ys, xs = [.ref p] ∧ ((SqL K H p ys ∧ ∀ l, H l = none → Q (.ref l) (upd H l (.tup ys))) ∨ (SqT K H p ys ∧ Q (.ref p) H))
theorem s_tupOf {b : Addr} {xs : List V} (h : SqL K H b xs) (k : ∀ q H2, H q = none → Ex [] H H2 → H2 q = some (.tup xs) → Q (.ref q) H2) : rTupOf K [.ref b] H Q := ⟨b, xs, rfl, .inl ⟨h, s_new k⟩⟩
theorem s_notN {v : V} (k : Q (.bl (!decide (v = .non))) H) : rNotN1 v .non H Q := ⟨rfl, k⟩
theorem s_isN {v : V} (k : Q (.bl (decide (v = .non))) H) : rIsN1 v .non H Q := ⟨rfl, k⟩
end
end WB
namespace WB
open PySem PySem.Spec PyProof.Rows L2
/-! ### a comprehension over two texts -/
def Lc2W (J : It) (g : TG) (tt : TT) (wi1 : TI) (g1 : TG) (tt1 : TT) (te : TE) (vs vs1 : List Nat) (σ : St) (H1 : Hp) (Q : VK) : Prop := ∀ D, H1 D = none → ∃ W : Nat → Nat → Hp → Prop, (∃ m, W 0 m (upd H1 D (.lst []))) ∧ ∀ i m H, W i m H →
  (J.stop i H ∧ Q (.ref D) H) ∨ (J.go i H ∧ ∃ Nx : Hp → Prop, (∀ H', Nx H' → ∃ m', m' < m ∧ W (i + 1) m' H') ∧ ∀ x H', J.yld i H x H' → g x (wipe σ vs) H' fun σ2 H2 => wipe σ2 vs = wipe σ vs ∧ tt σ2 H2 fun b H3 =>
    if b = true then wi1 σ2 H3 fun J1 H4 => ∃ W1 : Nat → Nat → Hp → Prop, (∃ m, W1 0 m H4) ∧ ∀ j k H, W1 j k H →
      (J1.stop j H ∧ Nx H) ∨ (J1.go j H ∧ ∃ Nx1 : Hp → Prop, (∀ H', Nx1 H' → ∃ k', k' < k ∧ W1 (j + 1) k' H') ∧ ∀ x H', J1.yld j H x H' → g1 x (wipe σ2 vs1) H' fun σ3 H5 => wipe σ3 vs1 = wipe σ2 vs1 ∧ tt1 σ3 H5 fun b H6 =>
        if b = true then te σ3 H6 fun y H7 => ∃ acc, H7 D = some (.lst acc) ∧ acc.length < sizeLine ∧ Nx1 (upd H7 D (.lst (acc ++ [y]))) else Nx1 H6)
    else Nx H3)
theorem s_lc2 {wi wi1 : TI} {g g1 : TG} {tt tt1 : TT} {te : TE} {vs vs1 : List Nat} {σ : St} {H : Hp} {Q : VK} (k : wi σ H fun J H1 => Lc2W J g tt wi1 g1 tt1 te vs vs1 σ H1 Q) : tLc2 wi g tt wi1 g1 tt1 te vs vs1 σ H Q := k
/-! ### the law's own defs about kinds -/
section
variable {K : PySem.W.Frag} {H : Hp} {Q : VK} {E : XK}
/-- over a list, the pool changing: any part of it that keeps the order -/
theorem lc_subL {a b : Addr} {ls : List (List Nat)} {j : Nat} {tt : TT} {σ : St} (hq : H b = some (.lst (ls.map vS))) (hb : b ≠ a) (hj : j < σ.length) (hn : ls.length ≤ 100000) (hp : PoolAt H a)
    (h : ∀ (x : List Nat) (H1 : Hp) (R : Bool → Hp → Prop), x ∈ ls → Ex [a] H H1 → PoolAt H1 a → (∀ c H2, Ex [a] H1 H2 → PoolAt H2 a → R c H2) → tt ((wipe σ [j]).set j (some (vS x))) H1 R)
    (k : ∀ D H' (ms : List (List Nat)), H D = none → Ex [a] H H' → PoolAt H' a → ms.Sublist ls → H' D = some (.lst (ms.map vS)) → Q (.ref D) H') : LcW (Itl K b) (gName j) tt (tVar j) [j] σ H Q := by
  refine lc_run (walk_list (xs := ls.map vS)) (by rw [List.length_map]; exact hn) [a] (fun H1 => PoolAt H1 a) (fun i acc _ => ∃ ms : List (List Nat), acc = ms.map vS ∧ ms.Sublist (ls.take i)) (fun z hz => by rw [List.mem_singleton.mp hz]; exact hp.there) hp ⟨[], rfl, by simp⟩ (fun H1 D o nD r => r.upd nD) (fun _ _ _ _ _ _ h => h) (fun H1 e => SqL.of (e b _ (by simpa using hb) hq)) ?_ ?_
  · rintro i acc x H1 H2 C1 C0 hi e r ⟨ms, rfl, hms⟩ ⟨rfl, hx⟩ k1 k0
    rw [List.length_map] at hi
    rw [List.getElem?_map, List.getElem?_eq_getElem hi] at hx
    cases hx
    refine ⟨wipe1 _ _ _, ?_⟩
    refine h ls[i] _ _ (List.getElem_mem hi) e r fun c H3 e3 r3 => ?_
    have hsub : (ls.take i).Sublist (ls.take (i + 1)) := by rw [List.take_add_one]; exact List.sublist_append_left _ _
    refine s_2 (fun _ => ?_) (fun _ => ?_)
    · refine ⟨vS ls[i], ?_, k1 _ _ e3 r3 ⟨ms ++ [ls[i]], by simp, ?_⟩⟩
      · show ((σ.set j none).set j (some (vS ls[i])))[j]? = _
        rw [List.set_set, List.getElem?_set_self hj]
      · rw [List.take_add_one, List.getElem?_eq_getElem hi]
        exact hms.append (List.Sublist.refl _)
    · exact k0 _ e3 r3 ⟨ms, rfl, hms.trans hsub⟩
  · rintro D H' ys hD e r hd _ ⟨ms, rfl, hms⟩
    rw [List.length_map, List.take_length] at hms
    exact k D H' ms hD e r hms hd
/-- t[a:b]: the tuple itself, or a new one -/
theorem s_slA {a : Addr} {xs : List V} {lo hi : Option Int} (h : SqT K H a xs) (k : ∀ q H2, Ex [] H H2 → SqT K H2 q (cutV xs lo hi) → Q (.ref q) H2) : rSlA K (.ref a) lo hi H Q := by
  refine ⟨a, xs, rfl, h, fun hw => ?_, fun _ p hp => k p _ (Ex.new hp) (SqT.of upd_same)⟩
  have e : cutV xs lo hi = xs := by
    unfold cutV
    rw [hw.1, hw.2]
    simp
  have := k a H Ex.rfl
  rw [e] at this
  exact this h
theorem cutV_to {xs : List V} {n : Int} (h0 : 0 ≤ n) : cutV xs none (some n) = xs.take n.toNat := by
  unfold cutV
  have e : HT.sIx xs.length xs.length (some n) = min n.toNat xs.length := by
    show (if n < 0 then (n + (xs.length : Int)).toNat else min n.toNat xs.length) = _
    rw [if_neg (by omega)]
  have e2 : HT.sIx xs.length 0 none = 0 := rfl
  rw [e, e2]
  rcases Nat.le_total n.toNat xs.length with h | h
  · rw [Nat.min_eq_left h]; simp
  · rw [Nat.min_eq_right h, List.take_of_length_le h]; simp
theorem u_is_wordF {l s : List Nat} (hl : l.length ≤ 10000) (k : ∀ H', Ex [] H H' → Q (.bl (isWord l s)) H') : sp_is_word K ([vS l, vS s] ++ []) H Q E := ⟨_, _, rfl, .inl ⟨l, rfl, hl, k⟩⟩
end
theorem erase_perm {α : Type} : ∀ {l : List α} {i : Nat} (h : i < l.length), (l[i] :: l.eraseIdx i).Perm l
  | x :: l, 0, _ => List.Perm.refl _
  | x :: l, i + 1, h => by
    have h2 : i < l.length := by simpa using h
    show (l[i] :: x :: l.eraseIdx i).Perm (x :: l)
    exact (List.Perm.swap _ _ _).trans (List.Perm.cons x (erase_perm h2))
theorem flat_len1 {s : List Nat} : (srt (s.map fun c => [c])).flatten.length = s.length := by
  rw [(srt_perm (s.map fun c => [c])).flatten.length_eq, flat1]
end WB
namespace WB
open PySem PySem.Spec PyProof.Rows L2
local macro_rules | `(tactic| walk_at "lit") => `(tactic| first | exact lit_abc | exact lit_empty)
local macro_rules | `(tactic| walk_at "nm") => `(tactic| focus first | exact List.not_mem_nil | (simp only [List.mem_singleton]; first | assumption | (exact Ne.symm (by assumption)) | (intro hz; subst hz; simp_all; done)))
local macro_rules | `(tactic| walk_at "hp") => `(tactic| first | assumption | (apply Ex.get0 (by assumption); walk_at "hp") | (apply Ex.get (by assumption); (walk_at "nm"); (walk_at "hp")))
local macro_rules | `(tactic| walk_at "sq") => `(tactic| first | assumption | (apply SqL.of; walk_at "hp") | (apply Ex.sqL (by assumption); (walk_at "nm"); (walk_at "sq")))
local macro_rules | `(tactic| walk_at "sqt") => `(tactic| first | assumption | (apply SqT.of; walk_at "hp") | (apply Ex.sqT (by assumption); (walk_at "nm"); (walk_at "sqt")))
local macro_rules | `(tactic| walk_at "sz") => `(tactic| focus ((with_reducible refine Nat.le_trans (m := 100000) ?_ (by decide)); first | omega | (simp; done) | (simp; omega)))
local macro_rules | `(tactic| walk_at "mul") => `(tactic| first | exact Or.inr ⟨by omega, by omega⟩ | exact Or.inl ⟨by omega, by omega⟩)
local macro_rules | `(tactic| walk_at "pool") => `(tactic| first | assumption | (apply PoolAt.ex (by assumption); (walk_at "nm"); (walk_at "pool")))
local macro_rules | `(tactic| walk_at "ring") => `(tactic| first | assumption | (apply RingAt.ex (by assumption); (walk_at "nm"); (walk_at "ring")))
local macro_rules | `(tactic| walk_at "st") => `(tactic| first
  | with_reducible refine s_seq ?_
  | with_reducible refine s_asg ?_
  | with_reducible refine s_gName ?_
  | with_reducible refine s_ret ?_
  | with_reducible refine s_ifS ?_
  | with_reducible refine s_next ?_
  | with_reducible refine s_op ?_
  | ((with_reducible apply s_var); exact rfl)
  | ((with_reducible apply s_cS); (walk_at "lit"))
  | with_reducible refine s_c ?_
  | with_reducible refine s_cb ?_
  | with_reducible refine s_cons ?_
  | with_reducible refine s_nil ?_
  | with_reducible refine s_un ?_
  | with_reducible refine s_call ?_
  | with_reducible refine s_test ?_
  | with_reducible refine s_tB ?_
  | with_reducible refine s_blQ ?_
  | with_reducible refine s_not ?_
  | with_reducible refine s_and ?_
  | with_reducible refine s_or ?_
  | with_reducible refine s_andV ?_
  | with_reducible refine s_orV ?_
  | with_reducible refine s_notV ?_
  | with_reducible refine s_ifE ?_
  | with_reducible refine s_chain ?_
  | ((with_reducible refine s_T ?_ ?_); (with_reducible exact rfl))
  | with_reducible refine s_nT ?_
  | with_reducible refine s_nF ?_
  | ((with_reducible refine s_F ?_ ?_); (with_reducible exact rfl))
  | ((with_reducible refine s_T ?_ ?_); assumption)
  | ((with_reducible refine s_F ?_ ?_); assumption)
  | ((with_reducible refine s_nB ?_ ?_); assumption)
  | ((with_reducible refine s_nA ?_ ?_); assumption)
  | ((with_reducible refine s_Td ?_ ?_); omega)
  | ((with_reducible refine s_Fd ?_ ?_); omega)
  | ((with_reducible refine s_nTd ?_ ?_); omega)
  | ((with_reducible refine s_nFd ?_ ?_); omega)
  | with_reducible refine s_sfld ?_
  | with_reducible refine s_addI ?_
  | with_reducible refine s_subI ?_
  | ((with_reducible refine s_mulI ?_ ?_); (walk_at "mul"))
  | ((with_reducible refine s_divI ?_ ?_); exact ⟨by omega, by omega⟩)
  | ((with_reducible refine s_modI ?_ ?_); omega)
  | ((with_reducible refine s_powI ?_ ?_); exact ⟨by decide, by decide, by decide⟩)
  | with_reducible refine s_ltI ?_
  | with_reducible refine s_leI ?_
  | with_reducible refine s_gtI ?_
  | with_reducible refine s_geI ?_
  | with_reducible refine s_negI ?_
  | with_reducible refine s_absI ?_
  | with_reducible refine s_intI ?_
  | with_reducible refine s_min2 ?_
  | with_reducible refine s_max2 ?_
  | with_reducible refine s_eqI ?_
  | with_reducible refine s_neI ?_
  | with_reducible refine s_eqS ?_
  | with_reducible refine s_neS ?_
  | with_reducible refine s_inSg ?_
  | with_reducible refine s_notInSg ?_
  | ((with_reducible refine s_addS ?_ ?_); (walk_at "sz"))
  | ((with_reducible refine s_lenS ?_ ?_); (walk_at "sz"))
  | ((with_reducible apply s_lenL); (walk_at "sq"))
  | ((with_reducible apply s_lenT); (walk_at "sqt"))
  | ((with_reducible apply s_ixL); (walk_at "sq"); exact rfl)
  | ((with_reducible apply s_ixT); (walk_at "sqt"); exact rfl)
  | with_reducible refine s_gSub ?_
  | ((with_reducible apply s_setL); (walk_at "hp"); (exact rfl); (intro _ _ _))
  | ((with_reducible refine s_alloc ?_ ?_); (walk_at "sz"); (intro _ _ _ _ _))
  | ((with_reducible refine s_divmod ?_ ?_); (exact ⟨by omega, PyProof.noPylong_small (by omega)⟩); (intro _ _ _ _ _))
  | ((with_reducible apply s_gTup); (walk_at "sqt"); (exact rfl))
  | ((with_reducible apply s_gLst); (walk_at "sq"); (exact rfl))
  | with_reducible refine s_gCons ?_
  | with_reducible refine s_gNil ?_
  | with_reducible refine s_lc ?_
  | ((with_reducible apply s_cat); (walk_at "hp"); (walk_at "hp"); (walk_at "sz"); (intro _ _ _ _ _))
  | ((with_reducible apply s_slL); (walk_at "sq"); (intro _ _ _ _ _))
  | with_reducible refine s_for ?_
  | with_reducible refine s_rng1 ?_
  | ((with_reducible refine s_rng1i ?_ ?_); (constructor <;> omega))
  | with_reducible refine s_rng2 ?_
  | ((with_reducible refine s_rng2i ?_ ?_); (refine ⟨?_, ?_, ?_, ?_⟩ <;> omega))
  | with_reducible refine s_iStr ?_
  | with_reducible refine s_iStrS ?_
  | with_reducible refine s_iList ?_
  | ((with_reducible apply s_iListA); (walk_at "sq"))
  | with_reducible refine s_iTup ?_
  | ((with_reducible apply s_iTupA); (walk_at "sqt"))
  | with_reducible refine s_sl ?_
  | with_reducible refine s_noPart ?_
  | with_reducible refine s_part ?_
  | with_reducible refine s_int1 ?_
  | ((with_reducible refine s_slS ?_ ?_); (walk_at "sz"))
  | with_reducible refine s_tup ?_
  | with_reducible refine s_lst ?_
  | with_reducible refine s_par ?_
  | with_reducible refine s_pair ?_
  | with_reducible refine s_M1 ?_
  | with_reducible refine s_isStr ?_
  | with_reducible refine s_revS ?_
  | ((with_reducible refine s_revS1 ?_ ?_); (walk_at "sz"))
  | with_reducible refine s_fldE ?_
  | with_reducible refine s_propE ?_
  | ((with_reducible refine u_draw ?_ ?_ ?_ ?_); omega; omega; (walk_at "pool"); (intro _ _ _ _ _ _))
  | ((with_reducible refine u_pool ?_); (intro _ _ _ _ _))
  | with_reducible refine u_is_integer ?_
  | with_reducible refine s_isiII ?_
  | with_reducible refine s_isiIB ?_
  | with_reducible refine s_isiSS ?_
  | ((with_reducible apply u_fldRing); assumption; (walk_at "ring"))
  | ((with_reducible apply u_textP); (walk_at "ring"))
  | ((with_reducible apply u_strRing); (walk_at "ring"))
  | ((with_reducible apply u_eqRing); (walk_at "ring"); (walk_at "ring"))
  | ((with_reducible apply u_isiRing); assumption; (walk_at "ring"))
  | ((with_reducible refine u_is_word ?_ ?_); omega; (intro _ _))
  | ((with_reducible refine u_turnings ?_ ?_); omega; (intro _ _ _ _ _))
  | with_reducible refine s_makeE ?_
  | with_reducible refine s_methE ?_)
local macro_rules | `(tactic| walk_at "go") => `(tactic| repeat (walk_at "st"))
local macro_rules | `(tactic| walk_at "exs") => `(tactic| first | exact Ex.rfl | assumption | (apply Ex.snoc (by assumption); walk_at "exs") | (apply Ex.snocW (by assumption); walk_at "exs"))
local macro_rules | `(tactic| walk_at "kind") => `(tactic| first | assumption | (apply KindAt.ex0 (by assumption); (walk_at "kind")) | (apply KindAt.exP (by assumption) (by assumption); (walk_at "kind")))
local macro_rules | `(tactic| walk_at "st") => `(tactic| first
  | with_reducible refine s_lenSet ?_
  | with_reducible refine s_drop ?_
  | with_reducible refine s_bm ?_
  | with_reducible refine s_notN ?_
  | with_reducible refine s_isN ?_
  | ((with_reducible apply s_tyL); (walk_at "hp"))
  | with_reducible refine s_enumT ?_
  | ((with_reducible apply s_enumTA); (walk_at "sqt"))
  | with_reducible refine s_lc2 ?_)
/-- check_signs: 0 signs -/
def t_check_signs (K : PySem.W.Frag) : TS :=
  (tIfS (tOr (tNot (tB (tCall (sp_is_word K) [(vS LET)] E0 (tCons (tVar 0) tNil)))) (tOr (tTest (tOp rGtI (tCB (rLenV K) (tCons (tVar 0) tNil)) (tC (.int 4)))) (tTest (tOp rLtI (tLenSetS K (tVar 0)) (tCB (rLenV K) (tCons (tVar 0) tNil)))))) tNever tNext)
section
variable {K : PySem.W.Frag} {vs : List V} {H : Hp} {Q : VK} {E : XK}
theorem pure_check_signs (h : sp_check_signs K vs H Q E) : t_check_signs K (E1 Q) (start ["signs"] vs) H := by
  obtain ⟨s, rfl, ⟨hw, h4, hn⟩, k⟩ := h
  have hl := isWord_len hw
  show t_check_signs K (E1 Q) [some (vS s)] H
  unfold t_check_signs
  walk_at "go"
  rename_i H1 e1
  refine s_setNS (by omega) ?_
  have en : ndc s.reverse = s.length := by rw [← List.length_reverse]; exact (ndc_full _).mpr ((List.reverse_perm s).nodup_iff.mpr hn)
  rw [en]
  walk_at "go"
  exact k _ e1
variable (FR : RingK K) (F : KindK K)
include F
include FR
end
end WB
/-! dict comprehensions whose keys are tuples of texts and ints -/
namespace WB
open PySem PySem.Spec PyProof.Rows L2
section
variable {X : Cx}
/-- a key that is a tuple is put into a dict of such -/
theorem dsetT {pins : List (Addr × Obj)} {σ : L2.St} {H : Hp} {s : Shared} {E : Value → Shared → Prop} {D b : Addr} {kvs : List (List Key × V)} {k : List Key} {v : V} {r : Value} {Q : Unit → Shared → Prop} (hu : X.A.units + 1 < cLine) (J : Inv X pins σ H s) (hD : H D = some (.dT kvs)) (hb : H b = some (.tup (k.map kV))) (hz : kvs.length < sizeLine)
    (rv : RelV v r) (q : ∀ s', Inv X pins σ (upd H D (.dT (putK kvs k v))) s' → Q () s') : wpAny (model X.prog X.w) X.A (dictSet D (.ref b) r) Q E s := by
  obtain ⟨z, y, xs, rel, dd⟩ := dt_of J.hok hD
  have hl : (putK kvs k v).length ≤ sizeLine := by have := length_putK kvs k v; omega
  refine wpAny_dictSet_heap (hsz := by rw [← Paired.length rel]; exact z) (show X.A.units < cLine by omega) (key_of J.hok hb) dd fun h' d2 sb => q _ ?_
  obtain ⟨o, es, ep, g1, g2, g3, g4, _, g5⟩ := d2
  refine d_write J (by rw [hD]; exact True.intro) sb ⟨o, g1⟩ ⟨hl, y, _, (rel.put k hb rv).keeps fun c ys ec => ?_, o, es, ep, g1, g2, g3, g4, g5⟩
  rw [upd_ne (ne_of ec hD (fun z => nomatch z))]
  exact ec
/-- {k: v for target in iter if ..}, the keys tuples: D the new dict -/
def tDcT (wi : TI) (g : TG) (tt : TT) (tk tv : TE) (vs : List Nat) : TE := fun σ H Q => wi σ H fun J H1 => ∀ D, H1 D = none → ∃ W : Nat → Nat → Hp → Prop, (∃ m, W 0 m (upd H1 D (.dT []))) ∧ ∀ i m H, W i m H →
  (J.stop i H ∧ Q (.ref D) H) ∨ (J.go i H ∧ ∃ Nx : Hp → Prop, (∀ H', Nx H' → ∃ m', m' < m ∧ W (i + 1) m' H') ∧ ∀ x H', J.yld i H x H' → g x (wipe σ vs) H' fun σ2 H2 => wipe σ2 vs = wipe σ vs ∧ tt σ2 H2 fun c H3 =>
    if c = true then tk σ2 H3 fun y H4 => tv σ2 H4 fun z H5 => ∃ kvs k b, y = .ref b ∧ H5 b = some (.tup (k.map kV)) ∧ H5 D = some (.dT kvs) ∧ kvs.length < sizeLine ∧ Nx (upd H5 D (.dT (putK kvs k z))) else Nx H3)
theorem pe_dcT {kx vx tg iter : Expr} {ifs : List Expr} {scope : Scope} {own : List (Str × Nat)} {pos : Pos} {wi : TI} {g : TG} {tt : TT} {tk tv : TE} (hc : X.calm = true) (hu : X.A.units + 1 < cLine) (hN : X.N.Nodup) (hi : PI X tg iter wi) (ok : BlkOk X.N X.env.scope scope own)
    (hg : ∀ (r : Shared) (G : Hp) (C : Addr) (cl : List (Str × Addr)) (fp : List Addr), PG (X.blk r G scope (compEnvC scope cl C X.env) fp) tg g) (ht : ∀ (r : Shared) (G : Hp) (C : Addr) (cl : List (Str × Addr)) (fp : List Addr), PTs (X.blk r G scope (compEnvC scope cl C X.env) fp) ifs tt)
    (hk : ∀ (r : Shared) (G : Hp) (C : Addr) (cl : List (Str × Addr)) (fp : List Addr), PE (X.blk r G scope (compEnvC scope cl C X.env) fp) kx tk) (hv : ∀ (r : Shared) (G : Hp) (C : Addr) (cl : List (Str × Addr)) (fp : List Addr), PE (X.blk r G scope (compEnvC scope cl C X.env) fp) vx tv)
    (hfs : ∀ x, foldedSetIterable iter X.env x = pure x := by intro _; rfl) : PE X (.DictComp kx vx [⟨tg, iter, ifs, 0⟩] scope pos) (tDcT wi g tt tk tv (own.map (·.2))) := by
  refine ⟨fun pins s σ H Q I0 h => ?_⟩
  rw [arm_eval_DictComp]
  have free : ∀ y ∈ scope.names, y.2 = .free → ∃ c, X.env.cells.lookup y.1 = some c := fun y hy e => (ok.free y hy e).elim (fun k => I0.ok.has _ (.inl k)) fun k => I0.ok.has _ (.inr k)
  refine wpAny_comprehension_free rfl hfs (closure_ok free) ok.kind (fun y hy e => by rw [ok.uniq y hy, e]) (thn (hi.run pins s σ H _ I0 h) fun _ r1 hx => thn hx fun _ r2 h2 => ?_)
  obtain ⟨it, fp, tn, J, G2, rfl, I2, T, t2, f2, q⟩ := h2
  refine wpAny_newObj_type (newEnv_comp ?_)
  obtain ⟨W, ⟨m0, w0⟩, turn⟩ := q r2.heap.objs.size (I2.hok.fresh (Nat.le_refl _))
  generalize er3 : ({ r2 with heap := r2.heap.push { cls := .type "dict", data := .dict #[] } } : Shared) = r3
  have I3 : Inv X pins σ (upd G2 r2.heap.objs.size (.dT [])) r3 := by
    subst er3
    exact I2.laid (t' := r2.toks) (fun b o e => Heap.get?_push_of_some _ e) (Nat.le_refl _) (dt_empty r2.heap I2.big)
  have up3 : ∀ b o, r2.heap.get? b = some o → r3.heap.get? b = some o := fun b o e => by subst er3; exact Heap.get?_push_of_some _ e
  have lt2 : ∀ b ∈ fp, b < r2.heap.objs.size := fun b hb => let ⟨_, e, _⟩ := T.obj _ _ t2 b hb; Heap.lt_size e
  have f3 : ∀ b ∈ fp, FpOk X pins (upd G2 r2.heap.objs.size (.dT [])) b ∧ b < r3.heap.objs.size := fun b hb =>
    ⟨⟨by rw [upd_ne (Nat.ne_of_lt (lt2 b hb))]; exact (f2 b hb).1, (f2 b hb).2⟩, let ⟨_, e, _⟩ := T.obj _ _ t2 b hb; Heap.lt_size (up3 b _ e)⟩
  have B4 := block_start I3 ok hN f3
  have n3 : ∀ b ∈ fp, (upd G2 r2.heap.objs.size (.dT [])) b = none := fun b hb => (f3 b hb).1.1
  have t3 : tn 0 r3.heap := T.keep _ _ _ t2 fun b _ o e => up3 b o e
  generalize r2.heap.objs.size = D at *
  generalize upd G2 D (.dT []) = G3 at *
  have p1 := hg r3 G3 r3.heap.objs.size (cellsFrom (r3.heap.objs.size + 1) scope.names (cloFrom X.env.cells scope.names [])) fp
  have p2 := ht r3 G3 r3.heap.objs.size (cellsFrom (r3.heap.objs.size + 1) scope.names (cloFrom X.env.cells scope.names [])) fp
  have p3 := hk r3 G3 r3.heap.objs.size (cellsFrom (r3.heap.objs.size + 1) scope.names (cloFrom X.env.cells scope.names [])) fp
  have p4 := hv r3 G3 r3.heap.objs.size (cellsFrom (r3.heap.objs.size + 1) scope.names (cloFrom X.env.cells scope.names [])) fp
  show codeAny _ _ (.compStart _ 0 (.ref it) (.ref D) (compEnvC scope (cellsFrom (r3.heap.objs.size + 1) scope.names (cloFrom X.env.cells scope.names [])) r3.heap.objs.size X.env)) _ { r3 with heap := pushCells (r3.heap.push { cls := .type "dict", data := .dict #[] }) scope.names }
  have eL : (compEnvC scope (cellsFrom (r3.heap.objs.size + 1) scope.names (cloFrom X.env.cells scope.names [])) r3.heap.objs.size X.env).locals = r3.heap.objs.size := rfl
  generalize compEnvC scope (cellsFrom (r3.heap.objs.size + 1) scope.names (cloFrom X.env.cells scope.names [])) r3.heap.objs.size X.env = ce at B4 p1 p2 p3 p4 eL ⊢
  have t4 : tn 0 (pushCells (r3.heap.push { cls := .type "dict", data := .dict #[] }) scope.names) := T.keep _ _ _ t3 fun b _ o e => pushCells_keeps _ _ _ _ (Heap.get?_push_of_some _ e)
  generalize er4 : ({ r3 with heap := pushCells (r3.heap.push { cls := .type "dict", data := .dict #[] }) scope.names } : Shared) = r4 at B4 ⊢
  have t4' : tn 0 r4.heap := by rw [← er4]; exact t4
  have fpk : ∀ {τ : L2.St} {G : Hp} {r : Shared}, Inv (X.blk r3 G3 scope ce fp) [] τ G r → (∀ b ∈ fp, G b = none) → ∀ b ∈ fp, FpOk (X.blk r3 G3 scope ce fp) [] G b := fun {τ G r} B hn b hb =>
    ⟨hn b hb, (B.ok.exf b hb).1, B.ok.exfs b hb, .inl hb, fun x c e => (B.ok.exf b hb).2 x c e, fun p hp => absurd (show p ∈ ([] : List (Addr × Obj)) ++ [] from hp) (by simp)⟩
  refine codeAny_compStart_dict ?loop (T.self X.A 0 _ _ _ t4' ?loop)
  case loop =>
    refine compLoop_anyD (fun n r => ∃ i G, Inv (X.blk r3 G3 scope ce fp) [] (wipe σ (own.map (·.2))) G r ∧ tn i r.heap ∧ (∀ b ∈ fp, G b = none) ∧ W i n G) ?_ m0 ⟨0, G3, B4, t4', n3, w0⟩
    rintro n r5 ⟨i, G5, B5, t5, n5, w5⟩
    rcases turn i n G5 w5 with ⟨stop, fin⟩ | ⟨go, Nx, hNx, step⟩
    · refine thnF (T.done (X.blk r3 G3 scope ce fp) rfl rfl rfl hc i [] r5 _ G5 (fun _ _ => False) B5 (fpk B5 n5) t5 stop) fun o r6 ⟨eo, B6⟩ => ?_
      subst eo
      have I7 : Inv X pins σ G5 r6 := I3.call' (ch := fp) B6.os B6.base B6.hok B6.bare fun b hb => let z := (f3 b hb).1.2; ⟨z.2.2.1, z.1, z.2.2.2.1, z.2.2.2.2⟩
      obtain ⟨m, hn, _⟩ := B6.loc
      have fr : G5 ce.locals = none := B6.free
      have hn : r6.heap.Ns ce.locals m := hn
      rw [eL] at fr hn
      obtain ⟨f0, f1, _, g3, g4, g5⟩ := I3.fpOk (Nat.le_refl _) fr
      exact ⟨m, hn, fun h'' sb => ⟨.ref D, G5, I7.turned (t' := r6.toks) (fun b o hb e => (sb.2 b hb).trans e) f0 f1 g3 g4 g5, rfl, fin⟩⟩
    · refine thnF (T.item (X.blk r3 G3 scope ce fp) rfl rfl rfl hc i [] r5 _ G5 (fun _ _ => False) B5 (fpk B5 n5) t5 go) fun o r6 ⟨u, eo, h6⟩ => ?_
      subst eo
      refine thnF h6 fun _ r7 ⟨x, G7, B7, rx, y7, t7, n7⟩ => ?_
      refine thnF (p1.run _ r7 _ G7 x u _ (B7.pinned (fpk B7 n7) (T.obj _ _ t7)) rx (step x G7 y7)) fun _ r8 ⟨τ, G8, B8, hw, q8⟩ => ?_
      refine thnF (p2.run _ r8 τ G8 _ B8 q8) fun c r9 ⟨G9, B9, q9⟩ => ?_
      have back : ∀ {r : Shared} {G : Hp}, Inv (X.blk r3 G3 scope ce fp) ([] ++ pinsAt fp r7.heap) τ G r → Nx G → ∃ m, m < n ∧ ∃ i G, Inv (X.blk r3 G3 scope ce fp) [] (wipe σ (own.map (·.2))) G r ∧ tn i r.heap ∧ (∀ b ∈ fp, G b = none) ∧ W i m G := fun {r G} B nx => by
        obtain ⟨m', lt, w'⟩ := hNx G nx
        have pin : ∀ b ∈ fp, ∀ o, r7.heap.get? b = some o → r.heap.get? b = some o ∧ G b = none := fun b hb o e => let z := B.pin (b, o) (List.mem_append_right _ (List.mem_append_right _ (mem_pinsAt hb e))); ⟨z.1, z.2.1⟩
        refine ⟨m', lt, i + 1, G, (B.unpinned (pins := [])).weak (by rw [← hw, wipe_length]) (fun j v e => ?_), T.keep _ _ _ t7 fun b hb o e => (pin b hb o e).1, fun b hb => let ⟨o, e, _⟩ := T.obj _ _ t7 b hb; (pin b hb o e).2, w'⟩
        rw [← hw] at e
        exact (wipe_some e).1
      cases c with
      | false => exact back B9 (by simpa using q9)
      | true =>
        have q9 := (show tk τ G9 _ by simpa using q9)
        refine thnF (p3.run _ r9 τ G9 _ B9 q9) fun z r10 ⟨yk, G10, B10, ry, q10⟩ => ?_
        refine thnF (p4.run _ r10 τ G10 _ B10 q10) fun z2 r11 ⟨yv, G11, B11, rz, kvs, k, b, ek, hb, hD, hz, nx⟩ => ?_
        subst ek
        cases ry
        exact dsetT (X := X.blk r3 G3 scope ce fp) hu B11 hD hb hz rz fun r12 B12 => back B12 nx
end
end WB
/-! calls with keywords in any order: each parameter tells where its value comes from -/
namespace WB
open PySem PySem.Spec PyProof.Rows L2
/-- (0, i): the i-th value by position; (1, i): the i-th default; (2, i): the i-th keyword; (3, i): the i-th default of a keyword-only one -/
def pick1 {α : Type} (k i : Nat) (vs ds mz zs : List α) : Option α := match k with
  | 0 => vs[i]?
  | 1 => ds[i]?
  | 2 => zs[i]?
  | _ => mz[i]?
def selG {α : Type} : List (Nat × Nat) → List α → List α → List α → List α → List α
  | [], _, _, _, _ => []
  | (k, i) :: ss, vs, ds, mz, zs => (pick1 k i vs ds mz zs).toList ++ selG ss vs ds mz zs
theorem vals_opt {vs : List V} {us : List Value} (r : Vals vs us) (i : Nat) : (vs[i]? = none ∧ us[i]? = none) ∨ ∃ v u, vs[i]? = some v ∧ us[i]? = some u ∧ RelV v u := by
  cases h : vs[i]? with
  | none =>
    refine .inl ⟨rfl, ?_⟩
    rw [List.getElem?_eq_none_iff] at h ⊢
    rw [← r.length]; exact h
  | some v =>
    obtain ⟨u, h1, h2⟩ := r.get h
    exact .inr ⟨v, u, rfl, h1, h2⟩
theorem opt_rel {vs : List V} {us : List Value} (r : Vals vs us) (i : Nat) : Vals vs[i]?.toList us[i]?.toList := by
  rcases vals_opt r i with ⟨e1, e2⟩ | ⟨v, u, e1, e2, rv⟩
  · rw [e1, e2]; exact .nil
  · rw [e1, e2]; exact .cons rv .nil
theorem sel_rel : ∀ (ss : List (Nat × Nat)) {vs ds mz zs : List V} {us its mv ws : List Value}, Vals vs us → Vals ds its → Vals mz mv → Vals zs ws → Vals (selG ss vs ds mz zs) (selG ss us its mv ws)
  | [], _, _, _, _, _, _, _, _, _, _, _, _ => .nil
  | (0, i) :: ss, _, _, _, _, _, _, _, _, r1, r2, r3, r4 => (opt_rel r1 i).append (sel_rel ss r1 r2 r3 r4)
  | (1, i) :: ss, _, _, _, _, _, _, _, _, r1, r2, r3, r4 => (opt_rel r2 i).append (sel_rel ss r1 r2 r3 r4)
  | (2, i) :: ss, _, _, _, _, _, _, _, _, r1, r2, r3, r4 => (opt_rel r4 i).append (sel_rel ss r1 r2 r3 r4)
  | (_ + 3, i) :: ss, _, _, _, _, _, _, _, _, r1, r2, r3, r4 => (opt_rel r3 i).append (sel_rel ss r1 r2 r3 r4)
section
variable {K : PySem.W.Frag} {x qual : Str} {params : Arguments} {body : List Stmt} {scope : Scope} {dvs : List V} {kws : List (Str × V)} {f : Addr} {fd : FuncData} {ps : List Str}
/-- no defaults -/
theorem kbnN (F : FunD K x qual params body scope [] kws f fd) (n : Nat) (ks : List Str) (ss : List (Nat × Nat))
    (h : ∀ (kV doc pm : Value) (an : Option Addr) (cdv ct : Value) (us ws : List Value), us.length = n → ws.length = ks.length → bindArgs (PySem.W.fnOf x qual params body scope .none kV doc pm an cdv ct) ⟨us, ks.zip ws⟩ = pure (ps.zip (selG ss us [] [] ws))) :
    ∃ g, KBn K fd ps n ks g (fun vs zs => selG ss vs [] [] zs) := by
  obtain ⟨oc, od, dV, kV, doc, pm, an, cdv, ct, osl, rfl, lk, hcd, hD, hK⟩ := F.ex
  rcases hD with ⟨_, rfl⟩ | ⟨e, _⟩
  · exact ⟨fun us ws => selG ss us [] [] ws, fun s us ws _ l1 l2 => .of_eq (h kV doc pm an cdv ct us ws l1 l2), fun r1 r2 => sel_rel ss r1 .nil .nil r2⟩
  · exact absurd rfl e
/-- defaults, none that is keyword-only lacking -/
theorem kbnD (F : FunD K x qual params body scope dvs kws f fd) (n : Nat) (ks : List Str) (ss : List (Nat × Nat)) (hd : dvs ≠ [])
    (h : ∀ (T : Addr) (kV doc pm : Value) (an : Option Addr) (cdv ct : Value) (us its ws : List Value), us.length = n → its.length = dvs.length → ws.length = ks.length →
      ∃ k, bindArgs (PySem.W.fnOf x qual params body scope (.ref T) kV doc pm an cdv ct) ⟨us, ks.zip ws⟩ = seqItems? (.ref T) >>= k ∧ k (some its.toArray) = pure (ps.zip (selG ss us its [] ws))) :
    ∃ g, KBn K fd ps n ks g (fun vs zs => selG ss vs dvs [] zs) := by
  obtain ⟨its, hb⟩ := FunD.kbindsD F n ks (fun vs ds zs => selG ss vs ds [] zs) hd (fun r1 r2 r3 => sel_rel ss r1 r2 .nil r3) h
  exact ⟨_, hb⟩
/-- defaults, and keyword-only ones that lack -/
theorem kbnK (F : FunD K x qual params body scope dvs kws f fd) (n : Nat) (ks : List Str) (ms : List (Str × V)) (ss : List (Nat × Nat)) (hd : dvs ≠ []) (hk : kws ≠ []) (hms : ∀ q ∈ ms, q ∈ kws)
    (h : ∀ (T D : Addr) (doc pm : Value) (an : Option Addr) (cdv ct : Value) (us its mv ws : List Value), us.length = n → its.length = dvs.length → mv.length = ms.length → ws.length = ks.length →
      ∃ k, bindArgs (PySem.W.fnOf x qual params body scope (.ref T) (.ref D) doc pm an cdv ct) ⟨us, ks.zip ws⟩ = seqItems? (.ref T) >>= k ∧ KwChain D ((ms.map (·.1)).zip mv) (k (some its.toArray)) (ps.zip (selG ss us its mv ws))) :
    ∃ g, KBn K fd ps n ks g (fun vs zs => selG ss vs dvs (ms.map (·.2)) zs) := by
  obtain ⟨its, mv, hb⟩ := FunD.kbinds F n ks ms (fun vs ds mz zs => selG ss vs ds mz zs) hd hk hms (fun r1 r2 r3 r4 => sel_rel ss r1 r2 r3 r4) h
  exact ⟨_, hb⟩
end
def MakeKG (C : Addr) (n m : Nat) (sp : Sp) (gV : List V → List V → List V) (E : XK) (vs zs : List V) (H : Hp) (Q : VK) : Prop := vs.length = n ∧ zs.length = m ∧ ∀ x dx, H x = none → H dx = none → dx ≠ x → sp (gV (.ref x :: vs) zs) (upd (upd H dx (.own x)) x (.ins C dx [])) (fun v H3 => v = .non ∧ Q (.ref x) H3) E
theorem s_makeK {C : Addr} {n m : Nat} {sp : Sp} {gV : List V → List V → List V} {E : XK} {t tk : TA} {σ : L2.St} {H : Hp} {Q : VK} (k : t σ H fun vs H1 => tk σ H1 fun zs H2 => MakeKG C n m sp gV E vs zs H2 Q) : tMakeK C n m sp gV E t tk σ H Q := k
end WB
/-! classmethods by keyword; a class made by a local name -/
namespace WB
open PySem PySem.Spec PyProof.Rows L2 ClX
section
variable {X : Cx} {CX : CXT} {k n : Nat} {C p g : Addr} {fd : FuncData} {ps ks : List Str} {mc : Value} {sp : Sp} {E : XK} {o e : Expr} {es : List Expr} {f m x : Str} {pos apos q1 : Pos} {ta : TE} {t tk : TA} {pl : Sem Bool} {kws : List Keyword} {gS : List Value → List Value → List Value} {gV : List V → List V → List V} {dvs : List V} {ds : List Value}
/-- C.m(k = v, ..) -/
def tCMethK (C : Addr) (n : Nat) (sp : Sp) (gV : List V → List V → List V) (E : XK) (ta : TE) (tk : TA) : TE := fun σ H Q => ta σ H fun x H1 => x = .ref C ∧ tk σ H1 fun zs H2 => zs.length = n ∧ sp (gV [.ref C] zs) H2 Q E
theorem pe_cmethK (he : PE X o ta) (r : CRead X.K C mc) (c : CMet X.K C mc m p g) (F : FnOk X.prog X.w X.K X.mg X.base CX k g fd ps sp) (hr : Room k X.A) (hb : KBn X.K fd ps 1 ks gS gV) (hx : Passes CX X E) (hkw : PK X kws tk)
    (hall : (backToKw pos (keywordEach kws X.env)).all (·.1.isSome) = true := by rfl) (hks : (backToKw pos (keywordEach kws X.env)).filterMap (·.1) = ks := by rfl)
    (hpl : ((backTo pos (starEach [] X.env)).any (·.1) || (backToKw pos (keywordEach kws X.env)).any (·.1.isNone)) = false := by rfl)
    (ht : eval (.Call (.Attribute o m apos) [] kws pos) X.env = (do
      let ov ← eval o X.env
      standAt apos.atName
      let (f, first) ← holding [ov] (getMethod ov m pl)
      callWith pos f first (backTo pos (starEach [] X.env)) (backToKw pos (keywordEach kws X.env))) := by rfl) :
    PE X (.Call (.Attribute o m apos) [] kws pos) (tCMethK C ks.length sp gV E ta tk) := by
  refine ⟨fun pins s σ H Q I h => PySem.W.methodCall_KW (pl := pl) (thn (he.run pins s σ H _ I h) fun u s1 ⟨x, H1, I1, rx, ex, q⟩ => ?_) ht⟩
  subst ex
  obtain rfl : u = Value.ref C := rx
  refine getmethcm_ok I1 r c fun s2 I2 => ?_
  refine PySem.W.callWith_of hpl (PySem.W.keeps_M (K := X.K) (self := .ref C) c.fi) (evalArgs_kw2_nil hall (thn (hkw.run pos _ s2 σ H1 _ I2 q) fun ws s3 ⟨zs, H2, I3, rz, l2, q2⟩ => ⟨⟨pin_at I3, I3.kIn⟩, ?_⟩))
  rw [hks]
  have z : wpAny (model X.prog X.w) X.A (call (.ref s1.heap.objs.size) [] (ks.zip ws)) (EP X ((s1.heap.objs.size, PySem.W.methodObj (.ref g) (.ref C)) :: pins) σ Q) X.xe s3 := by
    refine wpAny_call (PySem.W.method_call (pin_at I3) ?_)
    have r2 := hb.rel (vs := [.ref C]) (us := [.ref C]) (.cons rfl .nil) rz
    refine codeAny_mono (F.run X.A X.stack s3 H2 ⟨[.ref C], ks.zip ws⟩ (gS [.ref C] ws) (gV [.ref C] zs) Q E hr I3.env0 (hb.to s3 [.ref C] ws I3.kIn rfl (rz.length.symm.trans l2)) r2 q2) fun r s' hq => ?_
    cases r with
    | error e => exact hx _ σ H2 s3 e s' I3 hq
    | ok fl =>
      cases fl with
      | ret u => exact I3.after hq
      | next => exact False.elim hq
      | brk => exact False.elim hq
      | cont => exact False.elim hq
  exact thn z fun _ _ y => unpinE y
end
end WB
namespace WB
open PySem PySem.Spec PyProof.Rows L2
/-! ### data of kinds -/
section
variable {K : PySem.W.Frag} {H H' : Hp} {a b p : Addr} {l l' : List Nat} {ps ps' : List (List Nat)} {Q : VK} {E : XK}
/-! ### promises -/
def sp_Kind_signs (K : PySem.W.Frag) : Sp := fun vs H Q _ => ∃ a : Addr, vs = [.ref a] ∧ ∃ l ps, KindAt K H a l ps ∧ Q (vS l) H
/-- the row of a kind -/
def RowAt (K : PySem.W.Frag) (H : Hp) (q : Addr) (l : List Nat) (ps : List (List Nat)) : Prop := ∃ t, SqT K H q [vS l, .ref t] ∧ SqT K H t (ps.map vS)
theorem RowAt.ex0 (e : Ex [] H H') (h : RowAt K H a l ps) : RowAt K H' a l ps := by
  obtain ⟨t, h1, h2⟩ := h
  exact ⟨t, e.sqT (by simp) h1, e.sqT (by simp) h2⟩
theorem u_kSigns (h : KindAt K H a l ps) (k : Q (vS l) H) : PropG (He.ga K "Kind") (sp_Kind_signs K) [] E (.ref a) H Q := by
  obtain ⟨dx, t, h1, h2⟩ := id h
  exact ⟨a, dx, _, rfl, h1, a, rfl, l, ps, h, k⟩
theorem s_cmeth {C : Addr} {sp : Sp} {E : XK} {ta : TE} {tr : TA} {σ : St} (k : ta σ H fun x H1 => x = .ref C ∧ tr σ H1 fun vs H2 => sp (.ref C :: vs) H2 Q E) : ClX.tCMeth C sp E ta tr σ H Q := k
theorem s_cmethK {C : Addr} {n : Nat} {gV : List V → List V → List V} {sp : Sp} {E : XK} {ta : TE} {tr : TA} {σ : St} (k : ta σ H fun x H1 => x = .ref C ∧ tr σ H1 fun zs H2 => zs.length = n ∧ sp (gV [.ref C] zs) H2 Q E) : tCMethK C n sp gV E ta tr σ H Q := k
theorem s_self {x : V} {A : Prop} (k : A) : x = x ∧ A := ⟨rfl, k⟩
end
/-! ### plain -/
theorem let_plain {c : Nat} (h : c ∈ LET) : c < 55296 := by
  simp only [LET, List.mem_cons, List.not_mem_nil, or_false] at h
  omega
theorem sgn_perm (s : List Nat) : (sgn s).Perm s := by
  unfold sgn
  have := (srt_perm (s.map fun c => [c])).flatten
  rw [flat1] at this
  exact this
theorem sgn_of_perm {s t : List Nat} (h : s.Perm t) : sgn s = sgn t := by
  unfold sgn
  rw [srt_of_perm (h.map _)]
theorem sgn_idem (s : List Nat) : sgn (sgn s) = sgn s := sgn_of_perm (sgn_perm s)
theorem goodS_perm {s t : List Nat} (h : goodS s) (p : t.Perm s) : goodS t := ⟨isWord_mk (by rw [p.length_eq]; exact (isWord_len h.1).1) (by rw [p.length_eq]; exact (isWord_len h.1).2) fun c hc => isWord_in h.1 c (p.mem_iff.mp hc), by rw [p.length_eq]; exact h.2.1, p.nodup_iff.mpr h.2.2⟩
end WB
namespace WB
open PySem PySem.Spec PyProof.Rows L2
local macro_rules | `(tactic| walk_at "lit") => `(tactic| first | exact lit_abc | exact lit_empty)
local macro_rules | `(tactic| walk_at "nm") => `(tactic| focus first | exact List.not_mem_nil | (simp only [List.mem_singleton]; first | assumption | (exact Ne.symm (by assumption)) | (intro hz; subst hz; simp_all; done)))
local macro_rules | `(tactic| walk_at "hp") => `(tactic| first | assumption | (apply Ex.get0 (by assumption); walk_at "hp") | (apply Ex.get (by assumption); (walk_at "nm"); (walk_at "hp")))
local macro_rules | `(tactic| walk_at "sq") => `(tactic| first | assumption | (apply SqL.of; walk_at "hp") | (apply Ex.sqL (by assumption); (walk_at "nm"); (walk_at "sq")))
local macro_rules | `(tactic| walk_at "sqt") => `(tactic| first | assumption | (apply SqT.of; walk_at "hp") | (apply Ex.sqT (by assumption); (walk_at "nm"); (walk_at "sqt")))
local macro_rules | `(tactic| walk_at "sz") => `(tactic| focus ((with_reducible refine Nat.le_trans (m := 100000) ?_ (by decide)); first | omega | (simp; done) | (simp; omega)))
local macro_rules | `(tactic| walk_at "mul") => `(tactic| first | exact Or.inr ⟨by omega, by omega⟩ | exact Or.inl ⟨by omega, by omega⟩)
local macro_rules | `(tactic| walk_at "pool") => `(tactic| first | assumption | (apply PoolAt.ex (by assumption); (walk_at "nm"); (walk_at "pool")))
local macro_rules | `(tactic| walk_at "ring") => `(tactic| first | assumption | (apply RingAt.ex (by assumption); (walk_at "nm"); (walk_at "ring")))
local macro_rules | `(tactic| walk_at "st") => `(tactic| first
  | with_reducible refine s_seq ?_
  | with_reducible refine s_asg ?_
  | with_reducible refine s_gName ?_
  | with_reducible refine s_ret ?_
  | with_reducible refine s_ifS ?_
  | with_reducible refine s_next ?_
  | with_reducible refine s_op ?_
  | ((with_reducible apply s_var); exact rfl)
  | ((with_reducible apply s_cS); (walk_at "lit"))
  | with_reducible refine s_c ?_
  | with_reducible refine s_cb ?_
  | with_reducible refine s_cons ?_
  | with_reducible refine s_nil ?_
  | with_reducible refine s_un ?_
  | with_reducible refine s_call ?_
  | with_reducible refine s_test ?_
  | with_reducible refine s_tB ?_
  | with_reducible refine s_blQ ?_
  | with_reducible refine s_not ?_
  | with_reducible refine s_and ?_
  | with_reducible refine s_or ?_
  | with_reducible refine s_andV ?_
  | with_reducible refine s_orV ?_
  | with_reducible refine s_notV ?_
  | with_reducible refine s_ifE ?_
  | with_reducible refine s_chain ?_
  | ((with_reducible refine s_T ?_ ?_); (with_reducible exact rfl))
  | with_reducible refine s_nT ?_
  | with_reducible refine s_nF ?_
  | ((with_reducible refine s_F ?_ ?_); (with_reducible exact rfl))
  | ((with_reducible refine s_T ?_ ?_); assumption)
  | ((with_reducible refine s_F ?_ ?_); assumption)
  | ((with_reducible refine s_nB ?_ ?_); assumption)
  | ((with_reducible refine s_nA ?_ ?_); assumption)
  | ((with_reducible refine s_Td ?_ ?_); omega)
  | ((with_reducible refine s_Fd ?_ ?_); omega)
  | ((with_reducible refine s_nTd ?_ ?_); omega)
  | ((with_reducible refine s_nFd ?_ ?_); omega)
  | with_reducible refine s_sfld ?_
  | with_reducible refine s_addI ?_
  | with_reducible refine s_subI ?_
  | ((with_reducible refine s_mulI ?_ ?_); (walk_at "mul"))
  | ((with_reducible refine s_divI ?_ ?_); exact ⟨by omega, by omega⟩)
  | ((with_reducible refine s_modI ?_ ?_); omega)
  | ((with_reducible refine s_powI ?_ ?_); exact ⟨by decide, by decide, by decide⟩)
  | with_reducible refine s_ltI ?_
  | with_reducible refine s_leI ?_
  | with_reducible refine s_gtI ?_
  | with_reducible refine s_geI ?_
  | with_reducible refine s_negI ?_
  | with_reducible refine s_absI ?_
  | with_reducible refine s_intI ?_
  | with_reducible refine s_min2 ?_
  | with_reducible refine s_max2 ?_
  | with_reducible refine s_eqI ?_
  | with_reducible refine s_neI ?_
  | with_reducible refine s_eqS ?_
  | with_reducible refine s_neS ?_
  | with_reducible refine s_inSg ?_
  | with_reducible refine s_notInSg ?_
  | ((with_reducible refine s_addS ?_ ?_); (walk_at "sz"))
  | ((with_reducible refine s_lenS ?_ ?_); (walk_at "sz"))
  | ((with_reducible apply s_lenL); (walk_at "sq"))
  | ((with_reducible apply s_lenT); (walk_at "sqt"))
  | ((with_reducible apply s_ixL); (walk_at "sq"); exact rfl)
  | ((with_reducible apply s_ixT); (walk_at "sqt"); exact rfl)
  | with_reducible refine s_gSub ?_
  | ((with_reducible apply s_setL); (walk_at "hp"); (exact rfl); (intro _ _ _))
  | ((with_reducible refine s_alloc ?_ ?_); (walk_at "sz"); (intro _ _ _ _ _))
  | ((with_reducible refine s_divmod ?_ ?_); (exact ⟨by omega, PyProof.noPylong_small (by omega)⟩); (intro _ _ _ _ _))
  | ((with_reducible apply s_gTup); (walk_at "sqt"); (exact rfl))
  | ((with_reducible apply s_gLst); (walk_at "sq"); (exact rfl))
  | with_reducible refine s_gCons ?_
  | with_reducible refine s_gNil ?_
  | with_reducible refine s_lc ?_
  | ((with_reducible apply s_cat); (walk_at "hp"); (walk_at "hp"); (walk_at "sz"); (intro _ _ _ _ _))
  | ((with_reducible apply s_slL); (walk_at "sq"); (intro _ _ _ _ _))
  | with_reducible refine s_for ?_
  | with_reducible refine s_rng1 ?_
  | ((with_reducible refine s_rng1i ?_ ?_); (constructor <;> omega))
  | with_reducible refine s_rng2 ?_
  | ((with_reducible refine s_rng2i ?_ ?_); (refine ⟨?_, ?_, ?_, ?_⟩ <;> omega))
  | with_reducible refine s_iStr ?_
  | with_reducible refine s_iStrS ?_
  | with_reducible refine s_iList ?_
  | ((with_reducible apply s_iListA); (walk_at "sq"))
  | with_reducible refine s_iTup ?_
  | ((with_reducible apply s_iTupA); (walk_at "sqt"))
  | with_reducible refine s_sl ?_
  | with_reducible refine s_noPart ?_
  | with_reducible refine s_part ?_
  | with_reducible refine s_int1 ?_
  | ((with_reducible refine s_slS ?_ ?_); (walk_at "sz"))
  | with_reducible refine s_tup ?_
  | with_reducible refine s_lst ?_
  | with_reducible refine s_par ?_
  | with_reducible refine s_pair ?_
  | with_reducible refine s_M1 ?_
  | with_reducible refine s_isStr ?_
  | with_reducible refine s_revS ?_
  | ((with_reducible refine s_revS1 ?_ ?_); (walk_at "sz"))
  | with_reducible refine s_fldE ?_
  | with_reducible refine s_propE ?_
  | ((with_reducible refine u_draw ?_ ?_ ?_ ?_); omega; omega; (walk_at "pool"); (intro _ _ _ _ _ _))
  | ((with_reducible refine u_pool ?_); (intro _ _ _ _ _))
  | with_reducible refine u_is_integer ?_
  | with_reducible refine s_isiII ?_
  | with_reducible refine s_isiIB ?_
  | with_reducible refine s_isiSS ?_
  | ((with_reducible apply u_fldRing); assumption; (walk_at "ring"))
  | ((with_reducible apply u_textP); (walk_at "ring"))
  | ((with_reducible apply u_strRing); (walk_at "ring"))
  | ((with_reducible apply u_eqRing); (walk_at "ring"); (walk_at "ring"))
  | ((with_reducible apply u_isiRing); assumption; (walk_at "ring"))
  | ((with_reducible refine u_is_word ?_ ?_); omega; (intro _ _))
  | ((with_reducible refine u_turnings ?_ ?_); omega; (intro _ _ _ _ _))
  | with_reducible refine s_makeE ?_
  | with_reducible refine s_methE ?_)
local macro_rules | `(tactic| walk_at "go") => `(tactic| repeat (walk_at "st"))
local macro_rules | `(tactic| walk_at "exs") => `(tactic| first | exact Ex.rfl | assumption | (apply Ex.snoc (by assumption); walk_at "exs") | (apply Ex.snocW (by assumption); walk_at "exs"))
local macro_rules | `(tactic| walk_at "kind") => `(tactic| first | assumption | (apply KindAt.ex0 (by assumption); (walk_at "kind")) | (apply KindAt.exP (by assumption) (by assumption); (walk_at "kind")))
local macro_rules | `(tactic| walk_at "st") => `(tactic| first
  | with_reducible refine s_lenSet ?_
  | with_reducible refine s_drop ?_
  | with_reducible refine s_bm ?_
  | with_reducible refine s_notN ?_
  | with_reducible refine s_isN ?_
  | ((with_reducible apply s_tyL); (walk_at "hp"))
  | with_reducible refine s_enumT ?_
  | ((with_reducible apply s_enumTA); (walk_at "sqt"))
  | with_reducible refine s_lc2 ?_)
local macro_rules | `(tactic| walk_at "st") => `(tactic| first
  | with_reducible refine s_makeK ?_
  | with_reducible refine s_cmeth ?_
  | with_reducible refine s_cmethK ?_
  | with_reducible refine s_self ?_
  | ((with_reducible apply u_kSigns); (walk_at "kind")))
end WB
namespace WB
open PySem PySem.Spec PyProof.Rows L2
def sTuple : List Nat := [116, 117, 112, 108, 101]
def sList : List Nat := [108, 105, 115, 116]
def sTruth : List Nat := [116, 114, 117, 116, 104]
def sPlain : List Nat := [112, 108, 97, 105, 110]
/-- what has no parts -/
def Scal (v : V) (d : PyData) : Prop := (v = .non ∧ d = .none) ∨ (∃ b, v = .bl b ∧ d = .bool b) ∨ (∃ i, v = .int i ∧ d = .int i) ∨ (∃ l, plain l ∧ v = vS l ∧ d = dS l)
/-- v holds the data d, n deep -/
def Dd (K : PySem.W.Frag) (H : Hp) : Nat → V → PyData → Prop
  | 0, v, d => Scal v d
  | n + 1, v, d => Scal v d ∨ (∃ a xs ds, v = .ref a ∧ d = .tuple ds ∧ SqT K H a xs ∧ xs.length ≤ 1000 ∧ ds.length = xs.length ∧ ∀ (i : Nat) x e, xs[i]? = some x → ds[i]? = some e → Dd K H n x e) ∨
    (∃ a xs ds, v = .ref a ∧ d = .list ds ∧ H a = some (.lst xs) ∧ xs.length ≤ 1000 ∧ ds.length = xs.length ∧ ∀ (i : Nat) x e, xs[i]? = some x → ds[i]? = some e → Dd K H n x e)
/-- lists of lists, all at addresses F -/
def Fr (F : Addr → Prop) (H : Hp) : Nat → V → PyData → Prop
  | 0, v, d => Scal v d
  | n + 1, v, d => Scal v d ∨ (∃ a xs ds, v = .ref a ∧ d = .list ds ∧ F a ∧ H a = some (.lst xs) ∧ ds.length = xs.length ∧ ∀ (i : Nat) x e, xs[i]? = some x → ds[i]? = some e → Fr F H n x e)
def faceD : Nat → PyData → PyData
  | _, .bool b => .list [dS sTruth, .bool b]
  | n + 1, .tuple ds => .list (dS sTuple :: ds.map (faceD n))
  | n + 1, .list ds => .list (dS sList :: ds.map (faceD n))
  | _, d => .list [dS sPlain, d]
def sp_law_face (K : PySem.W.Frag) : Nat → Sp
  | 0 => fun _ _ _ _ => False
  | n + 1 => fun vs H Q _ => ∃ v, vs = [v] ∧ ∃ d, Dd K H n v d ∧ ∀ r H', H r = none → Ex [] H H' → Fr (fun a => H a = none) H' (n + 1) (.ref r) (faceD n d) → Q (.ref r) H'
/-! ### of data -/
theorem Scal.dp {K : PySem.W.Frag} {H : Hp} {v : V} {d : PyData} (h : Scal v d) : Dp K H v d := by
  rcases h with ⟨rfl, rfl⟩ | ⟨b, rfl, rfl⟩ | ⟨i, rfl, rfl⟩ | ⟨l, _, rfl, rfl⟩
  · exact .non
  · exact .bl b
  · exact .int i
  · exact .str _
theorem dpAll_of {K : PySem.W.Frag} {H : Hp} : ∀ (xs : List V) (ds : List PyData), ds.length = xs.length → (∀ (i : Nat) x e, xs[i]? = some x → ds[i]? = some e → Dp K H x e) → DpAll K H xs ds
  | [], [], _, _ => .nil
  | x :: xs, d :: ds, hl, h => .cons (h 0 x d rfl rfl) (dpAll_of xs ds (by simpa using hl) fun i y e h1 h2 => h (i + 1) y e h1 h2)
theorem Fr.dp {K : PySem.W.Frag} {F : Addr → Prop} {H : Hp} : ∀ (n : Nat) (v : V) (d : PyData), Fr F H n v d → Dp K H v d
  | 0, _, _, h => Scal.dp h
  | n + 1, v, d, h => by
    rcases h with h | ⟨a, xs, ds, rfl, rfl, _, h1, hl, h2⟩
    · exact Scal.dp h
    · exact .lst (SqL.of h1) (dpAll_of xs ds hl fun i x e hx he => Fr.dp n x e (h2 i x e hx he))
theorem Fr.mono {F F' : Addr → Prop} {H H' : Hp} (hF : ∀ a, F a → F' a) (hh : ∀ a xs, F a → H a = some (.lst xs) → H' a = some (.lst xs)) : ∀ (n : Nat) (v : V) (d : PyData), Fr F H n v d → Fr F' H' n v d
  | 0, _, _, h => h
  | n + 1, v, d, h => by
    rcases h with h | ⟨a, xs, ds, rfl, rfl, f, h1, hl, h2⟩
    · exact .inl h
    · exact .inr ⟨a, xs, ds, rfl, rfl, hF a f, hh a xs f h1, hl, fun i x e hx he => Fr.mono hF hh n x e (h2 i x e hx he)⟩
theorem Dd.ex {K : PySem.W.Frag} {H H' : Hp} (e : Ex [] H H') : ∀ (n : Nat) (v : V) (d : PyData), Dd K H n v d → Dd K H' n v d
  | 0, _, _, h => h
  | n + 1, v, d, h => by
    rcases h with h | ⟨a, xs, ds, rfl, rfl, h1, hn, hl, h2⟩ | ⟨a, xs, ds, rfl, rfl, h1, hn, hl, h2⟩
    · exact .inl h
    · exact .inr (.inl ⟨a, xs, ds, rfl, rfl, e.sqT (by simp) h1, hn, hl, fun i x y hx hy => Dd.ex e n x y (h2 i x y hx hy)⟩)
    · exact .inr (.inr ⟨a, xs, ds, rfl, rfl, e.get0 h1, hn, hl, fun i x y hx hy => Dd.ex e n x y (h2 i x y hx hy)⟩)
theorem lay_all : ∀ {ds : List PyData}, (∀ e ∈ ds, PyData.canLay0 e = true) → PyData.canLayAll0 ds = true
  | [], _ => by simp [PyData.canLayAll0]
  | d :: ds, h => by
    rw [PyData.canLayAll0]
    exact Bool.and_eq_true_iff.mpr ⟨h d List.mem_cons_self, lay_all fun e he => h e (List.mem_cons_of_mem _ he)⟩
theorem dep_all {m : Nat} : ∀ {ds : List PyData}, (∀ e ∈ ds, PyData.depth e ≤ m) → PyData.depthAll ds ≤ m
  | [], _ => by simp [PyData.depthAll]
  | d :: ds, h => by
    rw [PyData.depthAll]
    exact Nat.max_le.mpr ⟨h d List.mem_cons_self, dep_all fun e he => h e (List.mem_cons_of_mem _ he)⟩
theorem lay_dS {l : List Nat} (h : plain l) : PyData.canLay0 (dS l) = true := by
  unfold dS
  rw [PyData.canLay0]
  exact strOk_S h
theorem dep_dS {l : List Nat} : PyData.depth (dS l) = 0 := by simp [dS, PyData.depth]
theorem scal_shape {v : V} {d : PyData} (h : Scal v d) : PyData.canLay0 d = true ∧ PyData.depth d = 0 := by
  rcases h with ⟨rfl, rfl⟩ | ⟨b, rfl, rfl⟩ | ⟨i, rfl, rfl⟩ | ⟨l, hl, rfl, rfl⟩
  · simp [PyData.canLay0, PyData.depth]
  · simp [PyData.canLay0, PyData.depth]
  · simp [PyData.canLay0, PyData.depth]
  · exact ⟨lay_dS hl, dep_dS⟩
theorem plain_tags : plain sTuple ∧ plain sList ∧ plain sTruth ∧ plain sPlain := by
  refine ⟨?_, ?_, ?_, ?_⟩ <;> (intro c hc; revert c; decide)
/-- the face of what has no parts -/
def tagOf : PyData → List Nat
  | .bool _ => sTruth
  | _ => sPlain
theorem face_scal {n : Nat} {v : V} {d : PyData} (h : Scal v d) : faceD n d = .list [dS (tagOf d), d] := by
  rcases h with ⟨rfl, rfl⟩ | ⟨b, rfl, rfl⟩ | ⟨i, rfl, rfl⟩ | ⟨l, hl, rfl, rfl⟩ <;> cases n <;> rfl
theorem mem_get {α : Type} {l : List α} {x : α} (h : x ∈ l) : ∃ i : Nat, l[i]? = some x := List.mem_iff_getElem?.mp h
theorem face_shape {K : PySem.W.Frag} {H : Hp} : ∀ (n : Nat) (v : V) (d : PyData), Dd K H n v d → PyData.canLay0 (faceD n d) = true ∧ PyData.depth (faceD n d) ≤ n + 1 := by
  have sc : ∀ (n : Nat) (v : V) (d : PyData), Scal v d → PyData.canLay0 (faceD n d) = true ∧ PyData.depth (faceD n d) ≤ n + 1 := by
    intro n v d h
    obtain ⟨h1, h2⟩ := scal_shape h
    have ht : plain (tagOf d) := by
      rcases h with ⟨rfl, rfl⟩ | ⟨b, rfl, rfl⟩ | ⟨i, rfl, rfl⟩ | ⟨l, hl, rfl, rfl⟩
      · exact plain_tags.2.2.2
      · exact plain_tags.2.2.1
      · exact plain_tags.2.2.2
      · exact plain_tags.2.2.2
    rw [face_scal h]
    constructor
    · rw [PyData.canLay0]
      refine lay_all fun e he => ?_
      rcases List.mem_cons.mp he with rfl | he
      · exact lay_dS ht
      · rw [List.mem_singleton.mp he]; exact h1
    · rw [PyData.depth]
      have : PyData.depthAll [dS (tagOf d), d] ≤ 0 := dep_all fun e he => by
        rcases List.mem_cons.mp he with rfl | he
        · rw [dep_dS]; exact Nat.le_refl _
        · rw [List.mem_singleton.mp he, h2]; exact Nat.le_refl _
      omega
  have parts : ∀ (n : Nat) (t : List Nat) (xs : List V) (ds : List PyData), plain t → ds.length = xs.length → (∀ (i : Nat) x e, xs[i]? = some x → ds[i]? = some e → PyData.canLay0 (faceD n e) = true ∧ PyData.depth (faceD n e) ≤ n + 1) →
      PyData.canLay0 (.list (dS t :: ds.map (faceD n))) = true ∧ PyData.depth (.list (dS t :: ds.map (faceD n))) ≤ n + 1 + 1 := by
    intro n t xs ds ht hl h
    have hz : ∀ e ∈ ds, PyData.canLay0 (faceD n e) = true ∧ PyData.depth (faceD n e) ≤ n + 1 := fun e he => by
      obtain ⟨i, hi⟩ := mem_get he
      have hlt : i < xs.length := by
        have := (List.getElem?_eq_some_iff.mp hi).1
        omega
      exact h i xs[i] e (List.getElem?_eq_getElem hlt) hi
    constructor
    · rw [PyData.canLay0]
      refine lay_all fun e he => ?_
      rcases List.mem_cons.mp he with rfl | he
      · exact lay_dS ht
      · obtain ⟨e', h', rfl⟩ := List.mem_map.mp he
        exact (hz e' h').1
    · rw [PyData.depth]
      have : PyData.depthAll (dS t :: ds.map (faceD n)) ≤ n + 1 := dep_all fun e he => by
        rcases List.mem_cons.mp he with rfl | he
        · rw [dep_dS]; exact Nat.zero_le _
        · obtain ⟨e', h', rfl⟩ := List.mem_map.mp he
          exact (hz e' h').2
      omega
  intro n
  induction n with
  | zero => exact fun v d h => sc 0 v d h
  | succ n ih =>
    intro v d h
    rcases h with h | ⟨a, xs, ds, rfl, rfl, h1, hn, hl, h2⟩ | ⟨a, xs, ds, rfl, rfl, h1, hn, hl, h2⟩
    · exact sc (n + 1) v d h
    · exact parts n sTuple xs ds plain_tags.1 hl fun i x e hx he => ih x e (h2 i x e hx he)
    · exact parts n sList xs ds plain_tags.2.1 hl fun i x e hx he => ih x e (h2 i x e hx he)
theorem face_shaped {K : PySem.W.Frag} {H : Hp} {n : Nat} {v : V} {d : PyData} (hn : n ≤ 20) (h : Dd K H n v d) : SeqAt.shaped (faceD n d) = true := by
  obtain ⟨h1, h2⟩ := face_shape n v d h
  unfold SeqAt.shaped
  exact Bool.and_eq_true_iff.mpr ⟨h1, decide_eq_true (by omega)⟩
section
variable {K : PySem.W.Frag} {H : Hp} {Q : VK} {E : XK}
theorem s_eqFace {F F' : Addr → Prop} {n m m' : Nat} {x y : V} {d : PyData} (hs : SeqAt.shaped (faceD n d) = true) (h1 : Fr F H m x (faceD n d)) (h2 : Fr F' H m' y (faceD n d)) (k : Q (.bl true) H) : rEqD K x y H Q := by
  refine ⟨_, _, Fr.dp m x _ h1, Fr.dp m' y _ h2, hs, hs, ?_⟩
  rw [SeqAt.eqv_refl _ (Bool.and_eq_true_iff.mp hs).1]
  exact k
theorem u_face {n : Nat} {v : V} {d : PyData} (h : Dd K H n v d) (k : ∀ r H', H r = none → Ex [] H H' → Fr (fun a => H a = none) H' (n + 1) (.ref r) (faceD n d) → Q (.ref r) H') : sp_law_face K (n + 1) ([v] ++ []) H Q E := ⟨v, rfl, d, h, k⟩
/-- the faces of the parts -/
theorem lc_faces {J : It} {G : Hp → Prop} {xs : List V} {ds : List PyData} {n j : Nat} {σ : St} {E : XK} (w : Walk J xs.length G (YAt xs)) (hG : ∀ H1, Ex [] H H1 → G H1) (hn : xs.length ≤ 1000) (hj : j < σ.length) (hl : ds.length = xs.length)
    (hd : ∀ (i : Nat) x e, xs[i]? = some x → ds[i]? = some e → Dd K H n x e)
    (k : ∀ D H' ys, H D = none → Ex [] H H' → H' D = some (.lst ys) → ys.length = ds.length → (∀ (i : Nat) y e, ys[i]? = some y → ds[i]? = some e → Fr (fun a => H a = none ∧ a ≠ D) H' (n + 1) y (faceD n e)) → Q (.ref D) H') :
    LcW J (gName j) tYes (tCall (sp_law_face K (n + 1)) [] E (tCons (tVar j) tNil)) [j] σ H Q := by
  intro D hD
  refine lc_it w (fun i H1 => Ex [] H H1 ∧ ∃ ys, H1 D = some (.lst ys) ∧ ys.length = i ∧ ∀ (m : Nat) y e, ys[m]? = some y → ds[m]? = some e → Fr (fun a => H a = none ∧ a ≠ D) H1 (n + 1) y (faceD n e)) ⟨Ex.new hD, [], upd_same, rfl, by simp⟩ (fun i H1 _ h => hG H1 h.1) ?_ ?_
  · rintro i x H1 H2 hi ⟨e, ys, hy, hyl, hf⟩ ⟨rfl, hx⟩
    refine ⟨wipe1 _ _ _, ?_⟩
    refine s_yes ?_
    refine s_T rfl ?_
    refine s_call ?_
    refine s_cons ?_
    refine s_var (v := x) (by rw [List.getElem?_set_self (by simp [wipe]; exact hj)]) ?_
    refine s_nil ?_
    have hid : i < ds.length := by omega
    refine u_face (d := ds[i]) (Dd.ex e n x _ (hd i x _ hx (List.getElem?_eq_getElem hid))) fun r H5 hr e5 hfr => ?_
    have hDn : H2 D ≠ none := by rw [hy]; simp
    refine ⟨ys, e5.get0 hy, by rw [hyl]; exact Nat.lt_of_lt_of_le hi (Nat.le_trans hn (by decide)), ?_, ys ++ [.ref r], upd_same, by simp [hyl], ?_⟩
    · intro b o nb hb
      rw [upd_ne (ne_of_none hb hD)]
      exact e5 b o nb (e b o nb hb)
    · intro m y e' hm he
      by_cases hmi : m < i
      · rw [List.getElem?_append_left (by omega)] at hm
        refine Fr.mono (fun a h => h) (fun a zs fa ha => ?_) _ _ _ (hf m y e' hm he)
        rw [upd_ne fa.2]
        exact e5.get0 ha
      · have hmi' : m = i := by
          have := (List.getElem?_eq_some_iff.mp hm).1
          simp at this
          omega
        subst hmi'
        rw [List.getElem?_append_right (by omega)] at hm
        have : y = .ref r := by
          simp [hyl] at hm
          exact hm.symm
        subst this
        rw [List.getElem?_eq_getElem hid] at he
        cases he
        refine Fr.mono (fun a h => ⟨e.free h, fun z => hDn (z ▸ h)⟩) (fun a zs fa ha => ?_) _ _ _ hfr
        rw [upd_ne (show a ≠ D from fun z => hDn (z ▸ fa))]
        exact ha
  · rintro H1 ⟨e, ys, hy, hyl, hf⟩
    exact k D H1 ys hD e hy (by omega) hf
end
end WB
namespace WB
open PySem PySem.Spec PyProof.Rows L2
theorem lit_116_117_112_108_101 : ("tuple" : Str) = S [116, 117, 112, 108, 101] := by decide +kernel
theorem lit_108_105_115_116 : ("list" : Str) = S [108, 105, 115, 116] := by decide +kernel
theorem lit_100_105_99_116 : ("dict" : Str) = S [100, 105, 99, 116] := by decide +kernel
theorem lit_116_114_117_116_104 : ("truth" : Str) = S [116, 114, 117, 116, 104] := by decide +kernel
theorem lit_112_108_97_105_110 : ("plain" : Str) = S [112, 108, 97, 105, 110] := by decide +kernel
local macro_rules | `(tactic| walk_at "lit") => `(tactic| first | exact lit_116_117_112_108_101 | exact lit_108_105_115_116 | exact lit_100_105_99_116 | exact lit_116_114_117_116_104 | exact lit_112_108_97_105_110)
local macro_rules | `(tactic| walk_at "lit") => `(tactic| first | exact lit_abc | exact lit_empty)
local macro_rules | `(tactic| walk_at "nm") => `(tactic| focus first | exact List.not_mem_nil | (simp only [List.mem_singleton]; first | assumption | (exact Ne.symm (by assumption)) | (intro hz; subst hz; simp_all; done)))
local macro_rules | `(tactic| walk_at "hp") => `(tactic| first | assumption | (apply Ex.get0 (by assumption); walk_at "hp") | (apply Ex.get (by assumption); (walk_at "nm"); (walk_at "hp")))
local macro_rules | `(tactic| walk_at "sq") => `(tactic| first | assumption | (apply SqL.of; walk_at "hp") | (apply Ex.sqL (by assumption); (walk_at "nm"); (walk_at "sq")))
local macro_rules | `(tactic| walk_at "sqt") => `(tactic| first | assumption | (apply SqT.of; walk_at "hp") | (apply Ex.sqT (by assumption); (walk_at "nm"); (walk_at "sqt")))
local macro_rules | `(tactic| walk_at "sz") => `(tactic| focus ((with_reducible refine Nat.le_trans (m := 100000) ?_ (by decide)); first | omega | (simp; done) | (simp; omega)))
local macro_rules | `(tactic| walk_at "mul") => `(tactic| first | exact Or.inr ⟨by omega, by omega⟩ | exact Or.inl ⟨by omega, by omega⟩)
local macro_rules | `(tactic| walk_at "pool") => `(tactic| first | assumption | (apply PoolAt.ex (by assumption); (walk_at "nm"); (walk_at "pool")))
local macro_rules | `(tactic| walk_at "ring") => `(tactic| first | assumption | (apply RingAt.ex (by assumption); (walk_at "nm"); (walk_at "ring")))
local macro_rules | `(tactic| walk_at "st") => `(tactic| first
  | with_reducible refine s_seq ?_
  | with_reducible refine s_asg ?_
  | with_reducible refine s_gName ?_
  | with_reducible refine s_ret ?_
  | with_reducible refine s_ifS ?_
  | with_reducible refine s_next ?_
  | with_reducible refine s_op ?_
  | ((with_reducible apply s_var); exact rfl)
  | ((with_reducible apply s_cS); (walk_at "lit"))
  | with_reducible refine s_c ?_
  | with_reducible refine s_cb ?_
  | with_reducible refine s_cons ?_
  | with_reducible refine s_nil ?_
  | with_reducible refine s_un ?_
  | with_reducible refine s_call ?_
  | with_reducible refine s_test ?_
  | with_reducible refine s_tB ?_
  | with_reducible refine s_blQ ?_
  | with_reducible refine s_not ?_
  | with_reducible refine s_and ?_
  | with_reducible refine s_or ?_
  | with_reducible refine s_andV ?_
  | with_reducible refine s_orV ?_
  | with_reducible refine s_notV ?_
  | with_reducible refine s_ifE ?_
  | with_reducible refine s_chain ?_
  | ((with_reducible refine s_T ?_ ?_); (with_reducible exact rfl))
  | with_reducible refine s_nT ?_
  | with_reducible refine s_nF ?_
  | ((with_reducible refine s_F ?_ ?_); (with_reducible exact rfl))
  | ((with_reducible refine s_T ?_ ?_); assumption)
  | ((with_reducible refine s_F ?_ ?_); assumption)
  | ((with_reducible refine s_nB ?_ ?_); assumption)
  | ((with_reducible refine s_nA ?_ ?_); assumption)
  | ((with_reducible refine s_Td ?_ ?_); omega)
  | ((with_reducible refine s_Fd ?_ ?_); omega)
  | ((with_reducible refine s_nTd ?_ ?_); omega)
  | ((with_reducible refine s_nFd ?_ ?_); omega)
  | with_reducible refine s_sfld ?_
  | with_reducible refine s_addI ?_
  | with_reducible refine s_subI ?_
  | ((with_reducible refine s_mulI ?_ ?_); (walk_at "mul"))
  | ((with_reducible refine s_divI ?_ ?_); exact ⟨by omega, by omega⟩)
  | ((with_reducible refine s_modI ?_ ?_); omega)
  | ((with_reducible refine s_powI ?_ ?_); exact ⟨by decide, by decide, by decide⟩)
  | with_reducible refine s_ltI ?_
  | with_reducible refine s_leI ?_
  | with_reducible refine s_gtI ?_
  | with_reducible refine s_geI ?_
  | with_reducible refine s_negI ?_
  | with_reducible refine s_absI ?_
  | with_reducible refine s_intI ?_
  | with_reducible refine s_min2 ?_
  | with_reducible refine s_max2 ?_
  | with_reducible refine s_eqI ?_
  | with_reducible refine s_neI ?_
  | with_reducible refine s_eqS ?_
  | with_reducible refine s_neS ?_
  | with_reducible refine s_inSg ?_
  | with_reducible refine s_notInSg ?_
  | ((with_reducible refine s_addS ?_ ?_); (walk_at "sz"))
  | ((with_reducible refine s_lenS ?_ ?_); (walk_at "sz"))
  | ((with_reducible apply s_lenL); (walk_at "sq"))
  | ((with_reducible apply s_lenT); (walk_at "sqt"))
  | ((with_reducible apply s_ixL); (walk_at "sq"); exact rfl)
  | ((with_reducible apply s_ixT); (walk_at "sqt"); exact rfl)
  | with_reducible refine s_gSub ?_
  | ((with_reducible apply s_setL); (walk_at "hp"); (exact rfl); (intro _ _ _))
  | ((with_reducible refine s_alloc ?_ ?_); (walk_at "sz"); (intro _ _ _ _ _))
  | ((with_reducible refine s_divmod ?_ ?_); (exact ⟨by omega, PyProof.noPylong_small (by omega)⟩); (intro _ _ _ _ _))
  | ((with_reducible apply s_gTup); (walk_at "sqt"); (exact rfl))
  | ((with_reducible apply s_gLst); (walk_at "sq"); (exact rfl))
  | with_reducible refine s_gCons ?_
  | with_reducible refine s_gNil ?_
  | with_reducible refine s_lc ?_
  | ((with_reducible apply s_cat); (walk_at "hp"); (walk_at "hp"); (walk_at "sz"); (intro _ _ _ _ _))
  | ((with_reducible apply s_slL); (walk_at "sq"); (intro _ _ _ _ _))
  | with_reducible refine s_for ?_
  | with_reducible refine s_rng1 ?_
  | ((with_reducible refine s_rng1i ?_ ?_); (constructor <;> omega))
  | with_reducible refine s_rng2 ?_
  | ((with_reducible refine s_rng2i ?_ ?_); (refine ⟨?_, ?_, ?_, ?_⟩ <;> omega))
  | with_reducible refine s_iStr ?_
  | with_reducible refine s_iStrS ?_
  | with_reducible refine s_iList ?_
  | ((with_reducible apply s_iListA); (walk_at "sq"))
  | with_reducible refine s_iTup ?_
  | ((with_reducible apply s_iTupA); (walk_at "sqt"))
  | with_reducible refine s_sl ?_
  | with_reducible refine s_noPart ?_
  | with_reducible refine s_part ?_
  | with_reducible refine s_int1 ?_
  | ((with_reducible refine s_slS ?_ ?_); (walk_at "sz"))
  | with_reducible refine s_tup ?_
  | with_reducible refine s_lst ?_
  | with_reducible refine s_par ?_
  | with_reducible refine s_pair ?_
  | with_reducible refine s_M1 ?_
  | with_reducible refine s_isStr ?_
  | with_reducible refine s_revS ?_
  | ((with_reducible refine s_revS1 ?_ ?_); (walk_at "sz"))
  | with_reducible refine s_fldE ?_
  | with_reducible refine s_propE ?_
  | ((with_reducible refine u_draw ?_ ?_ ?_ ?_); omega; omega; (walk_at "pool"); (intro _ _ _ _ _ _))
  | ((with_reducible refine u_pool ?_); (intro _ _ _ _ _))
  | with_reducible refine u_is_integer ?_
  | with_reducible refine s_isiII ?_
  | with_reducible refine s_isiIB ?_
  | with_reducible refine s_isiSS ?_
  | ((with_reducible apply u_fldRing); assumption; (walk_at "ring"))
  | ((with_reducible apply u_textP); (walk_at "ring"))
  | ((with_reducible apply u_strRing); (walk_at "ring"))
  | ((with_reducible apply u_eqRing); (walk_at "ring"); (walk_at "ring"))
  | ((with_reducible apply u_isiRing); assumption; (walk_at "ring"))
  | ((with_reducible refine u_is_word ?_ ?_); omega; (intro _ _))
  | ((with_reducible refine u_turnings ?_ ?_); omega; (intro _ _ _ _ _))
  | with_reducible refine s_makeE ?_
  | with_reducible refine s_methE ?_)
local macro_rules | `(tactic| walk_at "go") => `(tactic| repeat (walk_at "st"))
local macro_rules | `(tactic| walk_at "exs") => `(tactic| first | exact Ex.rfl | assumption | (apply Ex.snoc (by assumption); walk_at "exs") | (apply Ex.snocW (by assumption); walk_at "exs"))
local macro_rules | `(tactic| walk_at "kind") => `(tactic| first | assumption | (apply KindAt.ex0 (by assumption); (walk_at "kind")) | (apply KindAt.exP (by assumption) (by assumption); (walk_at "kind")))
local macro_rules | `(tactic| walk_at "st") => `(tactic| first
  | with_reducible refine s_lenSet ?_
  | with_reducible refine s_drop ?_
  | with_reducible refine s_bm ?_
  | with_reducible refine s_notN ?_
  | with_reducible refine s_isN ?_
  | ((with_reducible apply s_tyL); (walk_at "hp"))
  | with_reducible refine s_enumT ?_
  | ((with_reducible apply s_enumTA); (walk_at "sqt"))
  | with_reducible refine s_lc2 ?_)
/-- _law_face: 0 _law_thing 1 _law_part 2 _law_key -/
def t_law_face (K : PySem.W.Frag) (n : Nat) : TS :=
  (tSeq (tIfS (tB (tCB (rIsi K) (tCons (tVar 0) (tCons (tC (.ty "tuple")) tNil)))) (tRet (tOp rCat (tLst (tCons (tC (.str "tuple")) tNil)) (tLc (iTup K (tVar 0)) (gName 1) tYes (tCall (sp_law_face K n) [] E0 (tCons (tVar 1) tNil)) [1]))) tNext)
  (tSeq (tIfS (tB (tCB (rIsi K) (tCons (tVar 0) (tCons (tC (.ty "list")) tNil)))) (tRet (tOp rCat (tLst (tCons (tC (.str "list")) tNil)) (tLc (iList K (tVar 0)) (gName 1) tYes (tCall (sp_law_face K n) [] E0 (tCons (tVar 1) tNil)) [1]))) tNext)
  (tSeq (tIfS (tB (tCB (rIsi K) (tCons (tVar 0) (tCons (tC (.ty "dict")) tNil)))) (tRet (tOp rCat (tLst (tCons (tC (.str "dict")) tNil)) (tLc (iKeys (tVar 0)) (gName 2) tYes (tLst (tCons (tCall (sp_law_face K n) [] E0 (tCons (tVar 2) tNil)) (tCons (tCall (sp_law_face K n) [] E0 (tCons (tDGet (tVar 0) (tVar 2)) tNil)) tNil))) [2]))) tNext)
  (tRet (tLst (tCons (tIf (tB (tCB (rIsi K) (tCons (tVar 0) (tCons (tC (.ty "bool")) tNil)))) (tC (.str "truth")) (tC (.str "plain"))) (tCons (tVar 0) tNil)))))))
section
variable {K : PySem.W.Frag} {vs : List V} {H : Hp} {Q : VK} {E : XK}
theorem fr_pair {F : Addr → Prop} {n : Nat} {r : Addr} {v : V} {d : PyData} (hs : Scal v d) (f : F r) (h : H r = some (.lst [vS (tagOf d), v])) : Fr F H (n + 1) (.ref r) (faceD n d) := by
  rw [face_scal hs]
  have ht : plain (tagOf d) := by
    rcases hs with ⟨rfl, rfl⟩ | ⟨b, rfl, rfl⟩ | ⟨i, rfl, rfl⟩ | ⟨l, hl, rfl, rfl⟩
    · exact plain_tags.2.2.2
    · exact plain_tags.2.2.1
    · exact plain_tags.2.2.2
    · exact plain_tags.2.2.2
  have sc : ∀ {x e}, Scal x e → Fr F H n x e := fun {x e} h => by cases n with
    | zero => exact h
    | succ n => exact .inl h
  refine .inr ⟨r, _, _, rfl, rfl, f, h, rfl, fun i x e h1 h2 => ?_⟩
  match i, h1, h2 with
  | 0, h1, h2 => cases h1; cases h2; exact sc (.inr (.inr (.inr ⟨_, ht, rfl, rfl⟩)))
  | 1, h1, h2 => cases h1; cases h2; exact sc hs
theorem fr_parts {F : Addr → Prop} {n : Nat} {r : Addr} {t : List Nat} {ys : List V} {ds : List PyData} (ht : plain t) (f : F r) (h : H r = some (.lst ([vS t] ++ ys))) (hl : ys.length = ds.length) (hf : ∀ (i : Nat) y e, ys[i]? = some y → ds[i]? = some e → Fr F H (n + 1) y (faceD n e)) :
    Fr F H (n + 1 + 1) (.ref r) (.list (dS t :: ds.map (faceD n))) := by
  refine .inr ⟨r, _, _, rfl, rfl, f, h, by simp [hl], fun i x e h1 h2 => ?_⟩
  match i, h1, h2 with
  | 0, h1, h2 => cases h1; cases h2; exact .inl (.inr (.inr (.inr ⟨_, ht, rfl, rfl⟩)))
  | i + 1, h1, h2 =>
    rw [List.getElem?_cons_succ, List.getElem?_map] at h2
    obtain ⟨e', h3, rfl⟩ := Option.map_eq_some_iff.mp h2
    exact hf i x e' h1 h3
theorem pure_law_face {n : Nat} (h : sp_law_face K (n + 1) vs H Q E) : t_law_face K n (E1 Q) (start ["_law_thing", "_law_part", "_law_key"] vs) H := by
  obtain ⟨v, rfl, d, hd, k⟩ := h
  show t_law_face K n (E1 Q) [some v, none, none] H
  have scal : Scal v d → t_law_face K n (E1 Q) [some v, none, none] H := by
    intro hs
    have hs' := hs
    unfold t_law_face
    rcases hs with ⟨rfl, rfl⟩ | ⟨b, rfl, rfl⟩ | ⟨i, rfl, rfl⟩ | ⟨l, hl, rfl, rfl⟩
    · walk_at "go"
      refine s_isiK Kd.non (b := false) (by decide +kernel) ?_
      walk_at "go"
      refine s_isiK Kd.non (b := false) (by decide +kernel) ?_
      walk_at "go"
      refine s_isiK Kd.non (b := false) (by decide +kernel) ?_
      walk_at "go"
      refine s_isiK Kd.non (b := false) (by decide +kernel) ?_
      walk_at "go"
      rename_i r H' nr e h
      exact k r H' nr e (fr_pair hs' nr h)
    · walk_at "go"
      refine s_isiK Kd.bl (b := false) (by decide +kernel) ?_
      walk_at "go"
      refine s_isiK Kd.bl (b := false) (by decide +kernel) ?_
      walk_at "go"
      refine s_isiK Kd.bl (b := false) (by decide +kernel) ?_
      walk_at "go"
      refine s_isiK Kd.bl (b := true) (by decide +kernel) ?_
      walk_at "go"
      rename_i r H' nr e h
      exact k r H' nr e (fr_pair hs' nr h)
    · walk_at "go"
      refine s_isiK Kd.int (b := false) (by decide +kernel) ?_
      walk_at "go"
      refine s_isiK Kd.int (b := false) (by decide +kernel) ?_
      walk_at "go"
      refine s_isiK Kd.int (b := false) (by decide +kernel) ?_
      walk_at "go"
      rename_i r H' nr e h
      exact k r H' nr e (fr_pair hs' nr h)
    · walk_at "go"
      refine s_isiK Kd.str (b := false) (by decide +kernel) ?_
      walk_at "go"
      refine s_isiK Kd.str (b := false) (by decide +kernel) ?_
      walk_at "go"
      refine s_isiK Kd.str (b := false) (by decide +kernel) ?_
      walk_at "go"
      refine s_isiK Kd.str (b := false) (by decide +kernel) ?_
      walk_at "go"
      rename_i r H' nr e h
      exact k r H' nr e (fr_pair hs' nr h)
  cases n with
  | zero => exact scal hd
  | succ n =>
    rcases hd with hd | ⟨a, xs, ds, rfl, rfl, h1, hn, hl, h2⟩ | ⟨a, xs, ds, rfl, rfl, h1, hn, hl, h2⟩
    · exact scal hd
    · unfold t_law_face
      walk_at "go"
      refine s_isiK (Kd.tup h1) (b := true) (by decide +kernel) ?_
      walk_at "go"
      rename_i q1 H1 n1 e1 h3
      refine lc_faces (ds := ds) (n := n) (walk_tup (xs := xs)) (fun H2 e2 => (e1.trans e2).sqT (by simp) h1) hn (by simp) hl (fun i x e hx he => Dd.ex e1 _ _ _ (h2 i x e hx he)) fun D H2 ys nD e2 hD hyl hf => ?_
      walk_at "go"
      rename_i p H3 np e3 hp
      have fr : H p = none := e1.free (e2.free np)
      refine k p H3 fr ((e1.trans e2).trans e3) (fr_parts plain_tags.1 fr hp hyl fun i y e hy he => ?_)
      exact Fr.mono (fun a h => e1.free h.1) (fun a zs _ ha => e3.get0 ha) _ _ _ (hf i y e hy he)
    · unfold t_law_face
      walk_at "go"
      refine s_isiK (Kd.lst h1) (b := false) (by decide +kernel) ?_
      walk_at "go"
      refine s_isiK (Kd.lst h1) (b := true) (by decide +kernel) ?_
      walk_at "go"
      rename_i q1 H1 n1 e1 h3
      refine lc_faces (ds := ds) (n := n) (walk_list (xs := xs)) (fun H2 e2 => SqL.of ((e1.trans e2).get0 h1)) hn (by simp) hl (fun i x e hx he => Dd.ex e1 _ _ _ (h2 i x e hx he)) fun D H2 ys nD e2 hD hyl hf => ?_
      walk_at "go"
      rename_i p H3 np e3 hp
      have fr : H p = none := e1.free (e2.free np)
      refine k p H3 fr ((e1.trans e2).trans e3) (fr_parts plain_tags.2.1 fr hp hyl fun i y e hy he => ?_)
      exact Fr.mono (fun a h => e1.free h.1) (fun a zs _ ha => e3.get0 ha) _ _ _ (hf i y e hy he)
end
end WB
/-! instances called: f(e, ..), f(k = v, ..) -/
namespace WB
open PySem PySem.Spec PyProof.Rows L2
def sp_law_right (K : PySem.W.Frag) : Sp := fun vs H Q _ => ∃ a : Addr, vs = [.ref a] ∧ PoolAt H a ∧ ∀ H', Ex [a] H H' → Q (.bl true) H'
/-! ### plain -/
theorem perm_of_sub {α : Type} [DecidableEq α] : ∀ (ps qs : List α), ps.Nodup → (∀ p ∈ ps, p ∈ qs) → qs.length ≤ ps.length → ps.Perm qs
  | [], qs, _, _, hl => by
    have : qs = [] := List.length_eq_zero_iff.mp (by simpa using hl)
    rw [this]
  | x :: ps, qs, hn, hs, hl => by
    obtain ⟨h1, h2⟩ := List.nodup_cons.mp hn
    have hx : x ∈ qs := hs x List.mem_cons_self
    have hp := List.perm_cons_erase hx
    refine (List.Perm.cons x (perm_of_sub ps (qs.erase x) h2 (fun p hp => ?_) ?_)).trans hp.symm
    · have ne : p ≠ x := fun e => h1 (by rw [← e]; exact hp)
      exact (List.mem_erase_of_ne ne).mpr (hs p (List.mem_cons_of_mem _ hp))
    · have := hp.length_eq
      rw [List.length_cons] at this hl
      omega
end WB
namespace WB
open PySem PySem.Spec PyProof.Rows L2
/-- over a list, those that pass, each by its value; nothing changes -/
theorem lc_fm8 {K : PySem.W.Frag} {H : Hp} {Q : VK} {b : Addr} {ls : List (List Nat)} {j : Nat} {tt : TT} {te : TE} {σ : St} (hq : SqL K H b (ls.map vS)) (hn : ls.length ≤ 100000) (pr : List Nat → Bool) (val : List Nat → V)
    (h : ∀ (x : List Nat) (H1 : Hp) (C1 : VK) (C0 : Hp → Prop), x ∈ ls → Ex [] H H1 → (∀ H2, Ex [] H1 H2 → pr x = true → C1 (val x) H2) → (∀ H2, Ex [] H1 H2 → pr x = false → C0 H2) →
      tt ((wipe σ [j]).set j (some (vS x))) H1 fun b H2 => if b = true then te ((wipe σ [j]).set j (some (vS x))) H2 C1 else C0 H2)
    (k : ∀ D H', H D = none → Ex [] H H' → H' D = some (.lst ((ls.filter pr).map val)) → Q (.ref D) H') : LcW (Itl K b) (gName j) tt te [j] σ H Q := by
  refine lc_run (walk_list (xs := ls.map vS)) (by rw [List.length_map]; exact hn) [] (fun _ => True) (fun i acc _ => acc = ((ls.take i).filter pr).map val) (by simp) trivial (by simp) (fun _ _ _ _ _ => trivial) (fun _ _ _ _ _ _ h => h) (fun H1 e => e.sqL (by simp) hq) ?_ ?_
  · rintro i acc x H1 H2 C1 C0 hi e _ rfl ⟨rfl, hx⟩ k1 k0
    rw [List.length_map] at hi
    rw [List.getElem?_map, List.getElem?_eq_getElem hi] at hx
    cases hx
    refine ⟨wipe1 _ _ _, ?_⟩
    refine h ls[i] _ C1 C0 (List.getElem_mem hi) e (fun H5 e5 hp => k1 _ H5 e5 trivial ?_) (fun H5 e5 hp => k0 H5 e5 trivial ?_)
    · rw [List.take_add_one, List.getElem?_eq_getElem hi, List.filter_append, List.map_append]
      simp [hp]
    · rw [List.take_add_one, List.getElem?_eq_getElem hi, List.filter_append, List.map_append]
      simp [hp]
  · rintro D H' ys hD e _ hd _ rfl
    rw [List.length_map, List.take_length] at hd
    exact k D H' hD e hd
end WB
namespace WB
open PySem PySem.Spec PyProof.Rows L2
/-! ### loops, plain -/
def MRK : List Nat := LET ++ [48, 49, 50, 51, 52, 53, 54, 55, 56, 57]
def isName (l : List Nat) : Prop := 1 ≤ l.length ∧ l.length ≤ 8 ∧ (∃ c r, l = c :: r ∧ c ∈ LET) ∧ ∀ c ∈ l, c ∈ MRK
theorem lit_MRK : ("abcdefghijklmnopqrstuvwxyz0123456789" : Str) = S MRK := by decide +kernel
/-- state, sign, later, amount -/
structure Rw where
  a : List Nat
  c : Nat
  b : List Nat
  n : Int
structure Tn where
  a : List Nat
  b : List Nat
  n : Int
/-- a loop's parts -/
structure LM where
  ab : List Nat
  st : List (List Nat)
  tb : List Nat → Nat → List Nat × Int
  en : List Nat → List Nat × Int
  ok : List (List Nat)
def goodSt (st : List (List Nat)) : Prop := 1 ≤ st.length ∧ st.length ≤ 6 ∧ st.Nodup ∧ ∀ a ∈ st, isName a
structure GoodM (M : LM) : Prop where
  ab : goodS M.ab
  st : goodSt M.st
  tb : ∀ a ∈ M.st, ∀ c ∈ M.ab, (M.tb a c).1 ∈ M.st
  en : ∀ a ∈ M.st, (M.en a).1 ∈ M.st
  ok : ∀ a ∈ M.ok, a ∈ M.st
def goodRws (s : List Nat) (st : List (List Nat)) (rs : List Rw) : Prop := (∀ r ∈ rs, r.a ∈ st ∧ r.c ∈ s ∧ r.b ∈ st) ∧ (rs.map fun r => (r.a, r.c)).Nodup ∧ rs.length = s.length * st.length
def goodTns (st : List (List Nat)) (ts : List Tn) : Prop := (∀ t ∈ ts, t.a ∈ st ∧ t.b ∈ st) ∧ (ts.map fun t => t.a).Nodup
def goodYes (st ys : List (List Nat)) : Prop := (∀ y ∈ ys, y ∈ st) ∧ ys.Nodup
def rwV (r : Rw) : List V := [vS r.a, vS [r.c], vS r.b, .int r.n]
def tnV (t : Tn) : List V := [vS t.a, vS t.b, .int t.n]
/-- a tuple of tuples -/
def TupsAt (K : PySem.W.Frag) (H : Hp) (t : Addr) (ls : List (List V)) : Prop := ∃ xs, SqT K H t xs ∧ xs.length = ls.length ∧ ∀ (i : Nat) x l, xs[i]? = some x → ls[i]? = some l → ∃ p, x = .ref p ∧ SqT K H p l
section
variable {K : PySem.W.Frag} {H H' : Hp} {Q : VK} {E : XK} {t a : Addr}
theorem TupsAt.ex0 {ls : List (List V)} (e : Ex [] H H') (h : TupsAt K H t ls) : TupsAt K H' t ls := by
  obtain ⟨xs, h1, h2, h3⟩ := h
  refine ⟨xs, e.sqT (by simp) h1, h2, fun i x l hx hl => ?_⟩
  obtain ⟨p, h4, h5⟩ := h3 i x l hx hl
  exact ⟨p, h4, e.sqT (by simp) h5⟩
theorem TupsAt.exP {ls : List (List V)} (hp : PoolAt H a) (e : Ex [a] H H') (h : TupsAt K H t ls) : TupsAt K H' t ls := by
  obtain ⟨xs, h1, h2, h3⟩ := h
  refine ⟨xs, sqT_pool hp e h1, h2, fun i x l hx hl => ?_⟩
  obtain ⟨p, h4, h5⟩ := h3 i x l hx hl
  exact ⟨p, h4, sqT_pool hp e h5⟩
/-! ### promises of the checks -/
def sp_is_name (K : PySem.W.Frag) : Sp := fun vs H Q _ => ∃ l : List Nat, vs = [vS l] ∧ isName l ∧ ∀ H', Ex [] H H' → Q (.bl true) H'
def sp_is_step (K : PySem.W.Frag) : Sp := fun vs H Q _ => ∃ (p : Addr) (s : List Nat) (t : Addr), vs = [.ref p, vS s, .ref t] ∧ ∃ (r : Rw) (st : List (List Nat)), SqT K H p (rwV r) ∧ SqT K H t (st.map vS) ∧ r.a ∈ st ∧ r.c ∈ s ∧ r.b ∈ st ∧ ∀ H', Ex [] H H' → Q (.bl true) H'
def sp_is_turn (K : PySem.W.Frag) : Sp := fun vs H Q _ => ∃ (p t : Addr), vs = [.ref p, .ref t] ∧ ∃ (r : Tn) (st : List (List Nat)), SqT K H p (tnV r) ∧ SqT K H t (st.map vS) ∧ r.a ∈ st ∧ r.b ∈ st ∧ ∀ H', Ex [] H H' → Q (.bl true) H'
def sp_check_states (K : PySem.W.Frag) : Sp := fun vs H Q _ => ∃ t : Addr, vs = [.ref t] ∧ ∃ st : List (List Nat), SqT K H t (st.map vS) ∧ goodSt st ∧ ∀ H', Ex [] H H' → Q .non H'
def sp_check_rows (K : PySem.W.Frag) : Sp := fun vs H Q _ => ∃ (s : List Nat) (t u : Addr), vs = [vS s, .ref t, .ref u] ∧ ∃ (st : List (List Nat)) (rs : List Rw), goodS s ∧ SqT K H t (st.map vS) ∧ goodSt st ∧ TupsAt K H u (rs.map rwV) ∧ goodRws s st rs ∧ ∀ H', Ex [] H H' → Q .non H'
def sp_check_turns (K : PySem.W.Frag) : Sp := fun vs H Q _ => ∃ (t u : Addr), vs = [.ref t, .ref u] ∧ ∃ (st : List (List Nat)) (ts : List Tn), SqT K H t (st.map vS) ∧ goodSt st ∧ TupsAt K H u (ts.map tnV) ∧ goodTns st ts ∧ ∀ H', Ex [] H H' → Q .non H'
def sp_check_yes (K : PySem.W.Frag) : Sp := fun vs H Q _ => ∃ (t u : Addr), vs = [.ref t, .ref u] ∧ ∃ st ys : List (List Nat), SqT K H t (st.map vS) ∧ SqT K H u (ys.map vS) ∧ goodYes st ys ∧ ∀ H', Ex [] H H' → Q .non H'
theorem u_is_name {l : List Nat} (h : isName l) (k : ∀ H', Ex [] H H' → Q (.bl true) H') : sp_is_name K ([vS l] ++ []) H Q E := ⟨l, rfl, h, k⟩
theorem u_is_step {p t : Addr} {s : List Nat} {r : Rw} {st : List (List Nat)} (h1 : SqT K H p (rwV r)) (h2 : SqT K H t (st.map vS)) (ha : r.a ∈ st) (hc : r.c ∈ s) (hb : r.b ∈ st) (k : ∀ H', Ex [] H H' → Q (.bl true) H') : sp_is_step K ([.ref p, vS s, .ref t] ++ []) H Q E := ⟨p, s, t, rfl, r, st, h1, h2, ha, hc, hb, k⟩
theorem u_is_turn {p t : Addr} {r : Tn} {st : List (List Nat)} (h1 : SqT K H p (tnV r)) (h2 : SqT K H t (st.map vS)) (ha : r.a ∈ st) (hb : r.b ∈ st) (k : ∀ H', Ex [] H H' → Q (.bl true) H') : sp_is_turn K ([.ref p, .ref t] ++ []) H Q E := ⟨p, t, rfl, r, st, h1, h2, ha, hb, k⟩
theorem u_check_states {st : List (List Nat)} (h : SqT K H t (st.map vS)) (hg : goodSt st) (k : ∀ H', Ex [] H H' → Q .non H') : sp_check_states K ([.ref t] ++ []) H Q E := ⟨t, rfl, st, h, hg, k⟩
theorem u_check_rows {s : List Nat} {u : Addr} {st : List (List Nat)} {rs : List Rw} (hs : goodS s) (h : SqT K H t (st.map vS)) (hg : goodSt st) (hr : TupsAt K H u (rs.map rwV)) (hgr : goodRws s st rs) (k : ∀ H', Ex [] H H' → Q .non H') : sp_check_rows K ([vS s, .ref t, .ref u] ++ []) H Q E := ⟨s, t, u, rfl, st, rs, hs, h, hg, hr, hgr, k⟩
theorem u_check_turns {u : Addr} {st : List (List Nat)} {ts : List Tn} (h : SqT K H t (st.map vS)) (hg : goodSt st) (hr : TupsAt K H u (ts.map tnV)) (hgr : goodTns st ts) (k : ∀ H', Ex [] H H' → Q .non H') : sp_check_turns K ([.ref t, .ref u] ++ []) H Q E := ⟨t, u, rfl, st, ts, h, hg, hr, hgr, k⟩
theorem u_check_yes {u : Addr} {st ys : List (List Nat)} (h : SqT K H t (st.map vS)) (hr : SqT K H u (ys.map vS)) (hgr : goodYes st ys) (k : ∀ H', Ex [] H H' → Q .non H') : sp_check_yes K ([.ref t, .ref u] ++ []) H Q E := ⟨t, u, rfl, st, ys, h, hr, hgr, k⟩
end
theorem nodup_le {α : Type} [DecidableEq α] : ∀ (ps qs : List α), ps.Nodup → (∀ p ∈ ps, p ∈ qs) → ps.length ≤ qs.length
  | [], _, _, _ => Nat.zero_le _
  | x :: ps, qs, hn, hs => by
    obtain ⟨h1, h2⟩ := List.nodup_cons.mp hn
    have hx : x ∈ qs := hs x List.mem_cons_self
    have := nodup_le ps (qs.erase x) h2 fun p hp => (List.mem_erase_of_ne (fun (e : p = x) => h1 (by rw [← e]; exact hp))).mpr (hs p (List.mem_cons_of_mem _ hp))
    rw [List.length_erase_of_mem hx] at this
    have := List.length_pos_of_mem hx
    simp only [List.length_cons]
    omega
theorem take1 {α β : Type} (f : α → β) {l : List α} {i : Nat} (h : i < l.length) : (l.take (i + 1)).map f = (l.take i).map f ++ [f l[i]] := by
  rw [List.take_add_one, List.getElem?_eq_getElem h, List.map_append]
  rfl
theorem name_plain {l : List Nat} (h : isName l) : plain l := fun c hc => by
  have := h.2.2.2 c hc
  rcases List.mem_append.mp this with h | h
  · exact let_plain h
  · exact (show ∀ c ∈ [48, 49, 50, 51, 52, 53, 54, 55, 56, 57], c < 55296 by decide) c h
end WB
namespace WB
open PySem PySem.Spec PyProof.Rows L2
local macro_rules | `(tactic| walk_at "lit") => `(tactic| first | exact lit_abc | exact lit_empty)
local macro_rules | `(tactic| walk_at "nm") => `(tactic| focus first | exact List.not_mem_nil | (simp only [List.mem_singleton]; first | assumption | (exact Ne.symm (by assumption)) | (intro hz; subst hz; simp_all; done)))
local macro_rules | `(tactic| walk_at "hp") => `(tactic| first | assumption | (apply Ex.get0 (by assumption); walk_at "hp") | (apply Ex.get (by assumption); (walk_at "nm"); (walk_at "hp")))
local macro_rules | `(tactic| walk_at "sq") => `(tactic| first | assumption | (apply SqL.of; walk_at "hp") | (apply Ex.sqL (by assumption); (walk_at "nm"); (walk_at "sq")))
local macro_rules | `(tactic| walk_at "sqt") => `(tactic| first | assumption | (apply SqT.of; walk_at "hp") | (apply Ex.sqT (by assumption); (walk_at "nm"); (walk_at "sqt")))
local macro_rules | `(tactic| walk_at "sz") => `(tactic| focus ((with_reducible refine Nat.le_trans (m := 100000) ?_ (by decide)); first | omega | (simp; done) | (simp; omega)))
local macro_rules | `(tactic| walk_at "mul") => `(tactic| first | exact Or.inr ⟨by omega, by omega⟩ | exact Or.inl ⟨by omega, by omega⟩)
local macro_rules | `(tactic| walk_at "pool") => `(tactic| first | assumption | (apply PoolAt.ex (by assumption); (walk_at "nm"); (walk_at "pool")))
local macro_rules | `(tactic| walk_at "ring") => `(tactic| first | assumption | (apply RingAt.ex (by assumption); (walk_at "nm"); (walk_at "ring")))
local macro_rules | `(tactic| walk_at "st") => `(tactic| first
  | with_reducible refine s_seq ?_
  | with_reducible refine s_asg ?_
  | with_reducible refine s_gName ?_
  | with_reducible refine s_ret ?_
  | with_reducible refine s_ifS ?_
  | with_reducible refine s_next ?_
  | with_reducible refine s_op ?_
  | ((with_reducible apply s_var); exact rfl)
  | ((with_reducible apply s_cS); (walk_at "lit"))
  | with_reducible refine s_c ?_
  | with_reducible refine s_cb ?_
  | with_reducible refine s_cons ?_
  | with_reducible refine s_nil ?_
  | with_reducible refine s_un ?_
  | with_reducible refine s_call ?_
  | with_reducible refine s_test ?_
  | with_reducible refine s_tB ?_
  | with_reducible refine s_blQ ?_
  | with_reducible refine s_not ?_
  | with_reducible refine s_and ?_
  | with_reducible refine s_or ?_
  | with_reducible refine s_andV ?_
  | with_reducible refine s_orV ?_
  | with_reducible refine s_notV ?_
  | with_reducible refine s_ifE ?_
  | with_reducible refine s_chain ?_
  | ((with_reducible refine s_T ?_ ?_); (with_reducible exact rfl))
  | with_reducible refine s_nT ?_
  | with_reducible refine s_nF ?_
  | ((with_reducible refine s_F ?_ ?_); (with_reducible exact rfl))
  | ((with_reducible refine s_T ?_ ?_); assumption)
  | ((with_reducible refine s_F ?_ ?_); assumption)
  | ((with_reducible refine s_nB ?_ ?_); assumption)
  | ((with_reducible refine s_nA ?_ ?_); assumption)
  | ((with_reducible refine s_Td ?_ ?_); omega)
  | ((with_reducible refine s_Fd ?_ ?_); omega)
  | ((with_reducible refine s_nTd ?_ ?_); omega)
  | ((with_reducible refine s_nFd ?_ ?_); omega)
  | with_reducible refine s_sfld ?_
  | with_reducible refine s_addI ?_
  | with_reducible refine s_subI ?_
  | ((with_reducible refine s_mulI ?_ ?_); (walk_at "mul"))
  | ((with_reducible refine s_divI ?_ ?_); exact ⟨by omega, by omega⟩)
  | ((with_reducible refine s_modI ?_ ?_); omega)
  | ((with_reducible refine s_powI ?_ ?_); exact ⟨by decide, by decide, by decide⟩)
  | with_reducible refine s_ltI ?_
  | with_reducible refine s_leI ?_
  | with_reducible refine s_gtI ?_
  | with_reducible refine s_geI ?_
  | with_reducible refine s_negI ?_
  | with_reducible refine s_absI ?_
  | with_reducible refine s_intI ?_
  | with_reducible refine s_min2 ?_
  | with_reducible refine s_max2 ?_
  | with_reducible refine s_eqI ?_
  | with_reducible refine s_neI ?_
  | with_reducible refine s_eqS ?_
  | with_reducible refine s_neS ?_
  | with_reducible refine s_inSg ?_
  | with_reducible refine s_notInSg ?_
  | ((with_reducible refine s_addS ?_ ?_); (walk_at "sz"))
  | ((with_reducible refine s_lenS ?_ ?_); (walk_at "sz"))
  | ((with_reducible apply s_lenL); (walk_at "sq"))
  | ((with_reducible apply s_lenT); (walk_at "sqt"))
  | ((with_reducible apply s_ixL); (walk_at "sq"); exact rfl)
  | ((with_reducible apply s_ixT); (walk_at "sqt"); exact rfl)
  | with_reducible refine s_gSub ?_
  | ((with_reducible apply s_setL); (walk_at "hp"); (exact rfl); (intro _ _ _))
  | ((with_reducible refine s_alloc ?_ ?_); (walk_at "sz"); (intro _ _ _ _ _))
  | ((with_reducible refine s_divmod ?_ ?_); (exact ⟨by omega, PyProof.noPylong_small (by omega)⟩); (intro _ _ _ _ _))
  | ((with_reducible apply s_gTup); (walk_at "sqt"); (exact rfl))
  | ((with_reducible apply s_gLst); (walk_at "sq"); (exact rfl))
  | with_reducible refine s_gCons ?_
  | with_reducible refine s_gNil ?_
  | with_reducible refine s_lc ?_
  | ((with_reducible apply s_cat); (walk_at "hp"); (walk_at "hp"); (walk_at "sz"); (intro _ _ _ _ _))
  | ((with_reducible apply s_slL); (walk_at "sq"); (intro _ _ _ _ _))
  | with_reducible refine s_for ?_
  | with_reducible refine s_rng1 ?_
  | ((with_reducible refine s_rng1i ?_ ?_); (constructor <;> omega))
  | with_reducible refine s_rng2 ?_
  | ((with_reducible refine s_rng2i ?_ ?_); (refine ⟨?_, ?_, ?_, ?_⟩ <;> omega))
  | with_reducible refine s_iStr ?_
  | with_reducible refine s_iStrS ?_
  | with_reducible refine s_iList ?_
  | ((with_reducible apply s_iListA); (walk_at "sq"))
  | with_reducible refine s_iTup ?_
  | ((with_reducible apply s_iTupA); (walk_at "sqt"))
  | with_reducible refine s_sl ?_
  | with_reducible refine s_noPart ?_
  | with_reducible refine s_part ?_
  | with_reducible refine s_int1 ?_
  | ((with_reducible refine s_slS ?_ ?_); (walk_at "sz"))
  | with_reducible refine s_tup ?_
  | with_reducible refine s_lst ?_
  | with_reducible refine s_par ?_
  | with_reducible refine s_pair ?_
  | with_reducible refine s_M1 ?_
  | with_reducible refine s_isStr ?_
  | with_reducible refine s_revS ?_
  | ((with_reducible refine s_revS1 ?_ ?_); (walk_at "sz"))
  | with_reducible refine s_fldE ?_
  | with_reducible refine s_propE ?_
  | ((with_reducible refine u_draw ?_ ?_ ?_ ?_); omega; omega; (walk_at "pool"); (intro _ _ _ _ _ _))
  | ((with_reducible refine u_pool ?_); (intro _ _ _ _ _))
  | with_reducible refine u_is_integer ?_
  | with_reducible refine s_isiII ?_
  | with_reducible refine s_isiIB ?_
  | with_reducible refine s_isiSS ?_
  | ((with_reducible apply u_fldRing); assumption; (walk_at "ring"))
  | ((with_reducible apply u_textP); (walk_at "ring"))
  | ((with_reducible apply u_strRing); (walk_at "ring"))
  | ((with_reducible apply u_eqRing); (walk_at "ring"); (walk_at "ring"))
  | ((with_reducible apply u_isiRing); assumption; (walk_at "ring"))
  | ((with_reducible refine u_is_word ?_ ?_); omega; (intro _ _))
  | ((with_reducible refine u_turnings ?_ ?_); omega; (intro _ _ _ _ _))
  | with_reducible refine s_makeE ?_
  | with_reducible refine s_methE ?_)
local macro_rules | `(tactic| walk_at "go") => `(tactic| repeat (walk_at "st"))
local macro_rules | `(tactic| walk_at "exs") => `(tactic| first | exact Ex.rfl | assumption | (apply Ex.snoc (by assumption); walk_at "exs") | (apply Ex.snocW (by assumption); walk_at "exs"))
local macro_rules | `(tactic| walk_at "kind") => `(tactic| first | assumption | (apply KindAt.ex0 (by assumption); (walk_at "kind")) | (apply KindAt.exP (by assumption) (by assumption); (walk_at "kind")))
local macro_rules | `(tactic| walk_at "st") => `(tactic| first
  | with_reducible refine s_lenSet ?_
  | with_reducible refine s_drop ?_
  | with_reducible refine s_bm ?_
  | with_reducible refine s_notN ?_
  | with_reducible refine s_isN ?_
  | ((with_reducible apply s_tyL); (walk_at "hp"))
  | with_reducible refine s_enumT ?_
  | ((with_reducible apply s_enumTA); (walk_at "sqt"))
  | with_reducible refine s_lc2 ?_)
local macro_rules | `(tactic| walk_at "lit") => `(tactic| exact lit_MRK)
/-- is_name: 0 value 1 mark -/
def t_is_name (K : PySem.W.Frag) : TS :=
  (tSeq (tIfS (tOr (tNot (tB (tCB (rIsi K) (tCons (tVar 0) (tCons (tC (.ty "str")) tNil))))) (tNot (tTest (tChain rLeI rLeI (tC (.int 1)) (tCB (rLenV K) (tCons (tVar 0) tNil)) (tC (.int 8)))))) (tRet (tC (.bl false))) tNext)
  (tRet (tAndV (tOp rInSg (tOp rIxS (tVar 0) (tC (.int 0))) (tC (.str "abcdefghijklmnopqrstuvwxyz"))) (tCB (rAll K) (tCons (tLc (iStr (tVar 0)) (gName 1) tYes (tOp rInSg (tVar 1) (tC (.str "abcdefghijklmnopqrstuvwxyz0123456789"))) [1]) tNil)))))
/-- is_step: 0 row 1 signs 2 states -/
def t_is_step (K : PySem.W.Frag) : TS :=
  (tSeq (tIfS (tOr (tNot (tB (tCall (sp_is_row K) [] E0 (tCons (tVar 0) (tCons (tC (.int 4)) tNil))))) (tOr (tNot (tB (tCall (sp_is_word K) [] E0 (tCons (tOp (rIxT K) (tVar 0) (tC (.int 1))) (tCons (tVar 1) tNil))))) (tTest (tOp rNe (tCB (rLenV K) (tCons (tOp (rIxT K) (tVar 0) (tC (.int 1))) tNil)) (tC (.int 1)))))) (tRet (tC (.bl false))) tNext)
  (tRet (tAndV (tOp (rIn K false) (tOp (rIxT K) (tVar 0) (tC (.int 0))) (tVar 2)) (tAndV (tOp (rIn K false) (tOp (rIxT K) (tVar 0) (tC (.int 2))) (tVar 2)) (tCall (sp_is_integer K) [] E0 (tCons (tOp (rIxT K) (tVar 0) (tC (.int 3))) tNil))))))
/-- is_turn: 0 turn 1 states -/
def t_is_turn (K : PySem.W.Frag) : TS :=
  (tRet (tAndV (tCall (sp_is_row K) [] E0 (tCons (tVar 0) (tCons (tC (.int 3)) tNil))) (tAndV (tOp (rIn K false) (tOp (rIxT K) (tVar 0) (tC (.int 0))) (tVar 1)) (tAndV (tOp (rIn K false) (tOp (rIxT K) (tVar 0) (tC (.int 1))) (tVar 1)) (tCall (sp_is_integer K) [] E0 (tCons (tOp (rIxT K) (tVar 0) (tC (.int 2))) tNil))))))
/-- check_states: 0 states 1 index 2 state -/
def t_check_states (K : PySem.W.Frag) : TS :=
  (tSeq (tIfS (tOr (tNot (tB (tCB (rIsi K) (tCons (tVar 0) (tCons (tC (.ty "tuple")) tNil))))) (tTest (tOp rEq (tCB (rLenV K) (tCons (tVar 0) tNil)) (tC (.int 0))))) tNever tNext)
  (tFor (iEnumT K (tCons (tVar 0) tNil)) (gTup K 2 (gCons (gName 1) (gCons (gName 2) gNil))) (tIfS (tOr (tTest (tOp rEq (tVar 1) (tC (.int 6)))) (tOr (tNot (tB (tCall (sp_is_name K) [] E0 (tCons (tVar 2) tNil)))) (tTest (tOp (rIn K false) (tVar 2) (tSl (rSlA K) (tVar 0) tNoPart (tPart (tVar 1))))))) tNever tNext)))
/-- check_rows: 0 signs 1 states 2 rows 3 seen 4 index 5 row -/
def t_check_rows (K : PySem.W.Frag) : TS :=
  (tSeq (tIfS (tNot (tB (tCB (rIsi K) (tCons (tVar 2) (tCons (tC (.ty "tuple")) tNil))))) tNever tNext)
  (tSeq (tAsg (tLst tNil) (gName 3))
  (tSeq (tFor (iEnumT K (tCons (tVar 2) tNil)) (gTup K 2 (gCons (gName 4) (gCons (gName 5) gNil))) (tSeq (tIfS (tOr (tNot (tB (tCall (sp_is_step K) [] E0 (tCons (tVar 5) (tCons (tVar 0) (tCons (tVar 1) tNil)))))) (tTest (tOp (rInD K) (tSl (rSlA K) (tVar 5) tNoPart (tPart (tC (.int 2)))) (tVar 3)))) tNever tNext)
  (tDrop (tBM K "list" rAppend (tVar 3) (tCons (tSl (rSlA K) (tVar 5) tNoPart (tPart (tC (.int 2)))) tNil)))))
  (tIfS (tTest (tOp rLtI (tCB (rLenV K) (tCons (tVar 2) tNil)) (tOp rMulI (tCB (rLenV K) (tCons (tVar 0) tNil)) (tCB (rLenV K) (tCons (tVar 1) tNil))))) tNever tNext))))
/-- check_turns: 0 states 1 turns 2 seen 3 index 4 turn -/
def t_check_turns (K : PySem.W.Frag) : TS :=
  (tSeq (tIfS (tNot (tB (tCB (rIsi K) (tCons (tVar 1) (tCons (tC (.ty "tuple")) tNil))))) tNever tNext)
  (tSeq (tAsg (tLst tNil) (gName 2))
  (tFor (iEnumT K (tCons (tVar 1) tNil)) (gTup K 2 (gCons (gName 3) (gCons (gName 4) gNil))) (tSeq (tIfS (tOr (tNot (tB (tCall (sp_is_turn K) [] E0 (tCons (tVar 4) (tCons (tVar 0) tNil))))) (tTest (tOp (rIn K false) (tOp (rIxT K) (tVar 4) (tC (.int 0))) (tVar 2)))) tNever tNext)
  (tDrop (tBM K "list" rAppend (tVar 2) (tCons (tOp (rIxT K) (tVar 4) (tC (.int 0))) tNil)))))))
/-- check_yes: 0 states 1 yes 2 index 3 state -/
def t_check_yes (K : PySem.W.Frag) : TS :=
  (tSeq (tIfS (tNot (tB (tCB (rIsi K) (tCons (tVar 1) (tCons (tC (.ty "tuple")) tNil))))) tNever tNext)
  (tFor (iEnumT K (tCons (tVar 1) tNil)) (gTup K 2 (gCons (gName 2) (gCons (gName 3) gNil))) (tIfS (tOr (tTest (tOp (rIn K true) (tVar 3) (tVar 0))) (tTest (tOp (rIn K false) (tVar 3) (tSl (rSlA K) (tVar 1) tNoPart (tPart (tVar 2)))))) tNever tNext)))
section
variable {K : PySem.W.Frag} {vs : List V} {H : Hp} {Q : VK} {E : XK}
theorem pure_is_name (h : sp_is_name K vs H Q E) : t_is_name K (E1 Q) (start ["value", "mark"] vs) H := by
  obtain ⟨l, rfl, ⟨h1, h2, ⟨c, r, hl, hc⟩, h3⟩, k⟩ := h
  show t_is_name K (E1 Q) [some (vS l), none] H
  unfold t_is_name
  walk_at "go"
  refine s_ixS (c := c) (by walk_at "sz") (atI_of (by omega) (by rw [hl]; rfl)) ?_
  walk_at "go"
  refine lc_mapS (by omega) (fun _ => true) (fun _ => .bl true) (fun d H1 C1 C0 hd e1 k1 k0 => ?_) (fun D H1 hD e1 hd => ?_)
  · refine s_yes ?_
    walk_at "go"
    rw [decide_eq_true (show d ∈ MRK from h3 d hd)]
    exact k1 _ Ex.rfl rfl
  walk_at "go"
  rw [show l.filter (fun _ => true) = l from List.filter_eq_self.mpr fun _ _ => rfl] at hd
  refine s_all (bs := l.map fun _ => true) (SqL.of (by rw [hd, List.map_map]; rfl)) ?_
  rw [show (l.map fun _ => true).all id = true by simp]
  exact k _ e1
theorem pure_is_step (h : sp_is_step K vs H Q E) : t_is_step K (E1 Q) (start ["row", "signs", "states"] vs) H := by
  obtain ⟨p, s, t, rfl, r, st, h1, h2, ha, hc, hb, k⟩ := h
  show t_is_step K (E1 Q) [some (.ref p), some (vS s), some (.ref t)] H
  unfold t_is_step
  walk_at "go"
  refine u_row h1 ?_
  walk_at "go"
  refine s_F rfl ?_
  walk_at "go"
  refine u_is_wordF (by simp) fun H1 e1 => ?_
  have hw : isWord [r.c] s = true := isWord_mk (by simp) (by simp) (by simpa using hc)
  rw [hw]
  walk_at "go"
  refine s_F (by simp) ?_
  walk_at "go"
  refine s_inT (e1.sqT (by simp) h2) ?_
  rw [decide_eq_true ha]
  walk_at "go"
  refine s_inT (e1.sqT (by simp) h2) ?_
  rw [decide_eq_true hb]
  walk_at "go"
  exact k _ e1
theorem pure_is_turn (h : sp_is_turn K vs H Q E) : t_is_turn K (E1 Q) (start ["turn", "states"] vs) H := by
  obtain ⟨p, t, rfl, r, st, h1, h2, ha, hb, k⟩ := h
  show t_is_turn K (E1 Q) [some (.ref p), some (.ref t)] H
  unfold t_is_turn
  walk_at "go"
  refine u_row h1 ?_
  walk_at "go"
  refine s_T rfl ?_
  walk_at "go"
  refine s_inT h2 ?_
  rw [decide_eq_true ha]
  walk_at "go"
  refine s_inT h2 ?_
  rw [decide_eq_true hb]
  walk_at "go"
  exact k _ Ex.rfl
/-- turns over enumerate(tuple) -/
theorem not_mem_take {α : Type} {ls : List α} (hn : ls.Nodup) {i : Nat} (hi : i < ls.length) : ls[i] ∉ ls.take i := fun z => by
  obtain ⟨j, hj, e⟩ := List.mem_take_iff_getElem.mp z
  exact absurd (List.getElem_inj hn |>.mp e) (by omega)
theorem pure_check_states (h : sp_check_states K vs H Q E) : t_check_states K (E1 Q) (start ["states", "index", "state"] vs) H := by
  obtain ⟨t, rfl, st, ht, ⟨g1, g2, g3, g4⟩, k⟩ := h
  show t_check_states K (E1 Q) [some (.ref t), none, none] H
  unfold t_check_states
  walk_at "go"
  refine s_isiK (Kd.tup ht) (b := true) (by decide +kernel) ?_
  walk_at "go"
  refine s_Fd (by rw [List.length_map]; omega) ?_
  walk_at "go"
  refine for_run walk_enumT (fun i σ H1 => ∃ x1 x2, σ = [some (.ref t), x1, x2] ∧ Ex [] H H1) ⟨_, _, rfl, Ex.rfl⟩ (fun i σ H1 _ ⟨_, _, _, e⟩ => e.sqT (by simp) ht) ?_ ?_
  · rintro i x σ H1 H2 hi ⟨x2, x3, rfl, e1⟩ ⟨T, y, z, rfl, hT, rfl, hy, hz⟩
    rw [List.length_map] at hi
    have hz : (st.map vS)[i]? = some z := hz
    rw [List.getElem?_map, List.getElem?_eq_getElem hi] at hz
    cases hz
    cases hy
    have e2 : Ex [] H1 (upd H1 T (.tup [.int (i : Nat), vS st[i]])) := Ex.new hT
    have h2 : (upd H1 T (.tup [.int (i : Nat), vS st[i]])) T = some (.tup [.int (i : Nat), vS st[i]]) := upd_same
    revert e2 h2
    generalize upd H1 T (.tup [.int (i : Nat), vS st[i]]) = H3
    intro e2 h2
    walk_at "go"
    refine u_is_name (g4 _ (List.getElem_mem hi)) fun H4 e4 => ?_
    walk_at "go"
    refine s_slA (xs := st.map vS) (by walk_at "sqt") fun q H5 e5 hs5 => ?_
    walk_at "go"
    rw [show cutV (st.map vS) none (some (i : Int)) = (st.take i).map vS by rw [cutV_to (by omega)]; simp [List.map_take]] at hs5
    refine s_inT hs5 ?_
    rw [decide_eq_false (not_mem_take g3 hi)]
    walk_at "go"
    exact ⟨_, _, rfl, (((e1.trans e2).trans e4).trans e5)⟩
  · rintro σ H1 ⟨x2, x3, rfl, e1⟩
    exact k _ e1
theorem pure_check_yes (h : sp_check_yes K vs H Q E) : t_check_yes K (E1 Q) (start ["states", "yes", "index", "state"] vs) H := by
  obtain ⟨t, u, rfl, st, ys, ht, hu, ⟨g1, g2⟩, k⟩ := h
  show t_check_yes K (E1 Q) [some (.ref t), some (.ref u), none, none] H
  unfold t_check_yes
  walk_at "go"
  refine s_isiK (Kd.tup hu) (b := true) (by decide +kernel) ?_
  walk_at "go"
  refine for_run walk_enumT (fun i σ H1 => ∃ x1 x2, σ = [some (.ref t), some (.ref u), x1, x2] ∧ Ex [] H H1) ⟨_, _, rfl, Ex.rfl⟩ (fun i σ H1 _ ⟨_, _, _, e⟩ => e.sqT (by simp) hu) ?_ ?_
  · rintro i x σ H1 H2 hi ⟨x2, x3, rfl, e1⟩ ⟨T, y, z, rfl, hT, rfl, hy, hz⟩
    rw [List.length_map] at hi
    have hz : (ys.map vS)[i]? = some z := hz
    rw [List.getElem?_map, List.getElem?_eq_getElem hi] at hz
    cases hz
    cases hy
    have e2 : Ex [] H1 (upd H1 T (.tup [.int (i : Nat), vS ys[i]])) := Ex.new hT
    have h2 : (upd H1 T (.tup [.int (i : Nat), vS ys[i]])) T = some (.tup [.int (i : Nat), vS ys[i]]) := upd_same
    revert e2 h2
    generalize upd H1 T (.tup [.int (i : Nat), vS ys[i]]) = H3
    intro e2 h2
    walk_at "go"
    refine s_notInT (ls := st) (by walk_at "sqt") ?_
    rw [decide_eq_true (g1 _ (List.getElem_mem hi))]
    walk_at "go"
    refine s_slA (xs := ys.map vS) (by walk_at "sqt") fun q H5 e5 hs5 => ?_
    walk_at "go"
    rw [show cutV (ys.map vS) none (some (i : Int)) = (ys.take i).map vS by rw [cutV_to (by omega)]; simp [List.map_take]] at hs5
    refine s_inT hs5 ?_
    rw [decide_eq_false (not_mem_take g2 hi)]
    walk_at "go"
    exact ⟨_, _, rfl, ((e1.trans e2).trans e5)⟩
  · rintro σ H1 ⟨x2, x3, rfl, e1⟩
    exact k _ e1
theorem pure_check_turns (h : sp_check_turns K vs H Q E) : t_check_turns K (E1 Q) (start ["states", "turns", "seen", "index", "turn"] vs) H := by
  obtain ⟨t, u, rfl, st, ts, ht, hst, hu, ⟨g1, g2⟩, k⟩ := h
  obtain ⟨xs, hxs, hxl, hxp⟩ := hu
  rw [List.length_map] at hxl
  have htl : ts.length ≤ 6 := by
    have := nodup_le _ st g2 fun a ha => by obtain ⟨t, h1, rfl⟩ := List.mem_map.mp ha; exact (g1 t h1).1
    rw [List.length_map] at this
    exact Nat.le_trans this hst.2.1
  show t_check_turns K (E1 Q) [some (.ref t), some (.ref u), none, none, none] H
  unfold t_check_turns
  walk_at "go"
  refine s_isiK (Kd.tup hxs) (b := true) (by decide +kernel) ?_
  walk_at "go"
  rename_i q H0 nq e0 h0
  refine for_run walk_enumT (fun i σ H1 => ∃ x1 x2, σ = [some (.ref t), some (.ref u), some (.ref q), x1, x2] ∧ Ex [] H H1 ∧ H1 q = some (.lst (((ts.take i).map fun t => t.a).map vS))) ⟨_, _, rfl, e0, by simpa using h0⟩ (fun i σ H1 _ ⟨_, _, _, e, _⟩ => e.sqT (by simp) hxs) ?_ ?_
  · rintro i x σ H1 H2 hi ⟨x2, x3, rfl, e1, h1⟩ ⟨T, y, z, rfl, hT, rfl, hy, hz⟩
    have hit : i < ts.length := by omega
    have hz : xs[i]? = some z := hz
    obtain ⟨p, rfl, hp⟩ := hxp i z (tnV ts[i]) hz (by rw [List.getElem?_map, List.getElem?_eq_getElem hit]; rfl)
    cases hy
    have hqT : q ≠ T := fun z => by rw [← z, h1] at hT; cases hT
    have e2 : Ex [] H1 (upd H1 T (.tup [.int (i : Nat), .ref p])) := Ex.new hT
    have h2 : (upd H1 T (.tup [.int (i : Nat), .ref p])) T = some (.tup [.int (i : Nat), .ref p]) := upd_same
    revert e2 h2
    generalize upd H1 T (.tup [.int (i : Nat), .ref p]) = H3
    intro e2 h2
    have hg := g1 _ (List.getElem_mem hit)
    walk_at "go"
    refine u_is_turn (r := ts[i]) (st := st) ((e1.trans e2).sqT (by simp) hp) ((e1.trans e2).sqT (by simp) ht) hg.1 hg.2 fun H4 e4 => ?_
    walk_at "go"
    refine s_inL (SqL.of ((e2.trans e4).get0 h1)) ?_
    rw [decide_eq_false (show ts[i].a ∉ (ts.take i).map fun t => t.a from fun z => by
      rw [List.map_take] at z
      have := not_mem_take g2 (i := i) (by rw [List.length_map]; exact hit)
      rw [List.getElem_map] at this
      exact this z)]
    walk_at "go"
    refine s_append (xs := ((ts.take i).map fun t => t.a).map vS) ((e2.trans e4).get0 h1) (by simp only [List.length_map, List.length_take]; exact Nat.lt_of_le_of_lt (Nat.min_le_left _ _) (Nat.lt_of_lt_of_le hit (Nat.le_trans htl (by decide)))) fun H5 e5 h5 => ?_
    refine ⟨_, _, rfl, Ex.drop nq ((e1.trans e2).trans e4) e5, ?_⟩
    rw [h5, take1 (fun t => t.a) hit, List.map_append]
    rfl
  · rintro σ H1 ⟨x2, x3, rfl, e1, _⟩
    exact k _ e1
/-- pairs as data -/
def dPr (z : List Nat × Nat) : PyData := .tuple [dS z.1, dS [z.2]]
theorem dPr_eqv (z w : List Nat × Nat) : PyData.eqv (dPr z) (dPr w) = decide (z = w) := by
  obtain ⟨a, c⟩ := z
  obtain ⟨b, d⟩ := w
  have h := eqv_strs [a, [c]] [b, [d]]
  show PyData.eqv (.tuple ([a, [c]].map dS)) (.tuple ([b, [d]].map dS)) = _
  rw [PyData.eqv, h]
  by_cases h1 : a = b <;> by_cases h2 : c = d <;> simp [h1, h2]
theorem dPr_lay {z : List Nat × Nat} (h : plain z.1 ∧ z.2 < 55296) : PyData.canLay0 (dPr z) = true := by
  unfold dPr
  rw [PyData.canLay0]
  exact lay_all fun e he => by
    rcases List.mem_cons.mp he with rfl | he
    · exact lay_dS h.1
    · rw [List.mem_singleton.mp he]; exact lay_dS (by simpa [plain] using h.2)
theorem dPr_dep (z : List Nat × Nat) : PyData.depth (dPr z) ≤ 1 := by
  unfold dPr
  rw [PyData.depth]
  have : PyData.depthAll [dS z.1, dS [z.2]] ≤ 0 := dep_all fun e he => by
    rcases List.mem_cons.mp he with rfl | he
    · rw [dep_dS]; exact Nat.le_refl _
    · rw [List.mem_singleton.mp he, dep_dS]; exact Nat.le_refl _
  omega
theorem any_pr (zs : List (List Nat × Nat)) (w : List Nat × Nat) : ((zs.map dPr).any fun z => PyData.eqv z (dPr w)) = decide (w ∈ zs) := by
  induction zs with
  | nil => simp
  | cons z zs ih =>
    rw [List.map_cons, List.any_cons, ih, dPr_eqv]
    by_cases h1 : z = w
    · subst h1; simp
    · by_cases h2 : w ∈ zs <;> simp [h1, h2, Ne.symm h1]
/-- a list of tuples of a text and a sign -/
def PrsAt (K : PySem.W.Frag) (H : Hp) (q : Addr) (zs : List (List Nat × Nat)) : Prop := ∃ xs, H q = some (.lst xs) ∧ xs.length = zs.length ∧ ∀ (i : Nat) x z, xs[i]? = some x → zs[i]? = some z → ∃ p, x = .ref p ∧ SqT K H p [vS z.1, vS [z.2]]
theorem s_inPr {q p : Addr} {zs : List (List Nat × Nat)} {w : List Nat × Nat} (h : PrsAt K H q zs) (hp : SqT K H p [vS w.1, vS [w.2]]) (hz : ∀ z ∈ zs, plain z.1 ∧ z.2 < 55296) (hw : plain w.1 ∧ w.2 < 55296) (k : Q (.bl (decide (w ∈ zs))) H) : rInD K (.ref p) (.ref q) H Q := by
  obtain ⟨xs, h1, h2, h3⟩ := h
  refine ⟨dPr w, zs.map dPr, .tup hp (.cons (.str _) (.cons (.str _) .nil)), .lst (SqL.of h1) (dpAll_of _ _ (by simp [h2]) fun i x e hx he => ?_), ?_, ?_, ?_⟩
  · rw [List.getElem?_map] at he
    obtain ⟨z, hz', rfl⟩ := Option.map_eq_some_iff.mp he
    obtain ⟨p', rfl, hp'⟩ := h3 i x z hx hz'
    exact .tup hp' (.cons (.str _) (.cons (.str _) .nil))
  · unfold SeqAt.shaped
    have := dPr_dep w
    exact Bool.and_eq_true_iff.mpr ⟨dPr_lay hw, decide_eq_true (by omega)⟩
  · unfold SeqAt.shaped
    refine Bool.and_eq_true_iff.mpr ⟨?_, decide_eq_true ?_⟩
    · rw [PyData.canLay0]
      exact lay_all fun e he => by obtain ⟨z, h, rfl⟩ := List.mem_map.mp he; exact dPr_lay (hz z h)
    · rw [PyData.depth]
      have : PyData.depthAll (zs.map dPr) ≤ 1 := dep_all fun e he => by obtain ⟨z, h, rfl⟩ := List.mem_map.mp he; exact dPr_dep z
      omega
  · rw [any_pr]; exact k
theorem sqT_lst {q t : Addr} {xs ys : List V} {H' : Hp} (hq : H q = some (.lst xs)) (e : Ex [q] H H') (h : SqT K H t ys) : SqT K H' t ys := by
  rcases h with (h | ⟨o, h⟩) | h
  · exact e.sqT (by simp only [List.mem_singleton]; intro w; rw [w, hq] at h; cases h) (.inl (.inl h))
  · exact e.sqT (by simp only [List.mem_singleton]; intro w; rw [w, hq] at h; cases h) (.inl (.inr ⟨o, h⟩))
  · exact .inr h
theorem PrsAt.ex0 {q : Addr} {zs : List (List Nat × Nat)} {H' : Hp} (e : Ex [] H H') (h : PrsAt K H q zs) : PrsAt K H' q zs := by
  obtain ⟨xs, h1, h2, h3⟩ := h
  refine ⟨xs, e.get0 h1, h2, fun i x z hx hz => ?_⟩
  obtain ⟨p, h4, h5⟩ := h3 i x z hx hz
  exact ⟨p, h4, e.sqT (by simp) h5⟩
theorem s_appPr {q p : Addr} {zs : List (List Nat × Nat)} {w : List Nat × Nat} (h : PrsAt K H q zs) (hp : SqT K H p [vS w.1, vS [w.2]]) (hl : zs.length ≤ 1000) (k : ∀ H2, Ex [q] H H2 → PrsAt K H2 q (zs ++ [w]) → Q .non H2) : rAppend (.ref q) [.ref p] H Q := by
  obtain ⟨xs, h1, h2, h3⟩ := h
  refine s_append h1 (by rw [h2]; exact Nat.lt_of_le_of_lt hl (by decide)) fun H2 e2 hh => k H2 e2 ⟨_, hh, by simp [h2], fun i x z hx hz => ?_⟩
  by_cases hi : i < xs.length
  · rw [List.getElem?_append_left hi] at hx
    rw [List.getElem?_append_left (by omega)] at hz
    obtain ⟨p', h4, h5⟩ := h3 i x z hx hz
    exact ⟨p', h4, sqT_lst h1 e2 h5⟩
  · rw [List.getElem?_append_right (by omega)] at hx hz
    have h0 : i - xs.length = 0 := by
      have := (List.getElem?_eq_some_iff.mp hx).1
      simp at this
      omega
    rw [show i - zs.length = 0 by omega] at hz
    rw [h0] at hx
    cases hx
    cases hz
    exact ⟨p, rfl, sqT_lst h1 e2 hp⟩
theorem pure_check_rows (h : sp_check_rows K vs H Q E) : t_check_rows K (E1 Q) (start ["signs", "states", "rows", "seen", "index", "row"] vs) H := by
  obtain ⟨s, t, u, rfl, st, rs, hs, ht, hst, hu, ⟨g1, g2, g3⟩, k⟩ := h
  obtain ⟨xs, hxs, hxl, hxp⟩ := hu
  rw [List.length_map] at hxl
  have h4 := hs.2.1
  have h6 := hst.2.1
  have hrl : rs.length ≤ 24 := by rw [g3]; exact Nat.mul_le_mul h4 h6
  have hpl : ∀ r ∈ rs, plain r.a ∧ r.c < 55296 := fun r hr => ⟨name_plain (hst.2.2.2 _ (g1 r hr).1), let_plain (isWord_in hs.1 _ (g1 r hr).2.1)⟩
  show t_check_rows K (E1 Q) [some (vS s), some (.ref t), some (.ref u), none, none, none] H
  unfold t_check_rows
  walk_at "go"
  refine s_isiK (Kd.tup hxs) (b := true) (by decide +kernel) ?_
  walk_at "go"
  rename_i q H0 nq e0 h0
  refine for_run walk_enumT (fun i σ H1 => ∃ x1 x2, σ = [some (vS s), some (.ref t), some (.ref u), some (.ref q), x1, x2] ∧ Ex [] H H1 ∧ PrsAt K H1 q ((rs.take i).map fun r => (r.a, r.c))) ⟨_, _, rfl, e0, ⟨[], h0, rfl, by simp⟩⟩ (fun i σ H1 _ ⟨_, _, _, e, _⟩ => e.sqT (by simp) hxs) ?_ ?_
  · rintro i x σ H1 H2 hi ⟨x2, x3, rfl, e1, h1⟩ ⟨T, y, z, rfl, hT, rfl, hy, hz⟩
    have hit : i < rs.length := by omega
    have hz : xs[i]? = some z := hz
    obtain ⟨p, rfl, hp⟩ := hxp i z (rwV rs[i]) hz (by rw [List.getElem?_map, List.getElem?_eq_getElem hit]; rfl)
    cases hy
    have e2 : Ex [] H1 (upd H1 T (.tup [.int (i : Nat), .ref p])) := Ex.new hT
    have h2 : (upd H1 T (.tup [.int (i : Nat), .ref p])) T = some (.tup [.int (i : Nat), .ref p]) := upd_same
    revert e2 h2
    generalize upd H1 T (.tup [.int (i : Nat), .ref p]) = H3
    intro e2 h2
    have hg := g1 _ (List.getElem_mem hit)
    have hc2 : cutV (rwV rs[i]) none (some 2) = [vS rs[i].a, vS [rs[i].c]] := by rw [cutV_to (by omega)]; rfl
    walk_at "go"
    refine u_is_step (r := rs[i]) (st := st) ((e1.trans e2).sqT (by simp) hp) ((e1.trans e2).sqT (by simp) ht) hg.1 hg.2.1 hg.2.2 fun H4 e4 => ?_
    walk_at "go"
    refine s_slA (xs := rwV rs[i]) (((e1.trans e2).trans e4).sqT (by simp) hp) fun q5 H5 e5 hs5 => ?_
    rw [hc2] at hs5
    walk_at "go"
    refine s_inPr (w := (rs[i].a, rs[i].c)) (((h1.ex0 e2).ex0 e4).ex0 e5) hs5 (fun z hz => ?_) (hpl _ (List.getElem_mem hit)) ?_
    · obtain ⟨r, hr, rfl⟩ := List.mem_map.mp hz
      exact hpl r (List.mem_of_mem_take hr)
    rw [decide_eq_false (show (rs[i].a, rs[i].c) ∉ (rs.take i).map fun r => (r.a, r.c) from fun z => by
      rw [List.map_take] at z
      have := not_mem_take g2 (i := i) (by rw [List.length_map]; exact hit)
      rw [List.getElem_map] at this
      exact this z)]
    obtain ⟨xq, hxq, _⟩ := id (((h1.ex0 e2).ex0 e4).ex0 e5)
    walk_at "go"
    refine s_slA (xs := rwV rs[i]) ((((e1.trans e2).trans e4).trans e5).sqT (by simp) hp) fun q6 H6 e6 hs6 => ?_
    rw [hc2] at hs6
    walk_at "go"
    refine s_appPr (w := (rs[i].a, rs[i].c)) ((((h1.ex0 e2).ex0 e4).ex0 e5).ex0 e6) hs6 (by rw [List.length_map, List.length_take]; omega) fun H7 e7 h7 => ?_
    refine ⟨_, _, rfl, Ex.drop nq ((((e1.trans e2).trans e4).trans e5).trans e6) e7, ?_⟩
    rw [take1 _ hit]
    exact h7
  · rintro σ H1 ⟨x2, x3, rfl, e1, _⟩
    walk_at "go"
    refine s_Fd (by rw [List.length_map, hxl, g3, Int.natCast_mul]; exact Int.lt_irrefl _) ?_
    exact k _ e1
end
end WB
namespace WB
open PySem PySem.Spec PyProof.Rows L2
def kS (l : List Nat) : Key := .inr (S l)
theorem kS_inj {a b : List Nat} (h : kS a = kS b) : a = b := S_inj (Sum.inr.inj h)
/-! ### what stands for a loop -/
/-- a table by state and sign -/
def TabOk (K : PySem.W.Frag) (H : Hp) (kt : List (List Key × V)) (M : LM) : Prop := ∀ a ∈ M.st, ∀ c ∈ M.ab, ∃ p, valV kt [kS a, kS [c]] = some (.ref p) ∧ SqT K H p [vS (M.tb a c).1, .int (M.tb a c).2]
def EndOk (K : PySem.W.Frag) (H : Hp) (ke : List (Key × V)) (M : LM) : Prop := ∀ a ∈ M.st, ∃ p, valV ke (kS a) = some (.ref p) ∧ SqT K H p [vS (M.en a).1, .int (M.en a).2]
def LoopAt (K : PySem.W.Frag) (H : Hp) (x : Addr) (M : LM) : Prop := ∃ dx o tt te tm kt ke, H x = some (.ins (He.ga K "Loop") dx [("letters", vS M.ab), ("order", .ref o), ("table", .ref tt), ("ending", .ref te), ("marked", .ref tm)]) ∧
  SqT K H o (M.st.map vS) ∧ H tt = some (.dT kt) ∧ TabOk K H kt M ∧ H te = some (.dK ke) ∧ EndOk K H ke M ∧ SqT K H tm (M.ok.map vS)
structure LoopK (K : PySem.W.Frag) : Prop where
  cl : Cls K (He.ga K "Loop")
  n1 : NoAttr K (He.ga K "Loop") "letters"
  n2 : NoAttr K (He.ga K "Loop") "order"
  n3 : NoAttr K (He.ga K "Loop") "table"
  n4 : NoAttr K (He.ga K "Loop") "ending"
  n5 : NoAttr K (He.ga K "Loop") "marked"
section
variable {K : PySem.W.Frag} {H H' : Hp} {Q : VK} {E : XK} {x a : Addr} {M : LM}
theorem TabOk.ex0 {kt : List (List Key × V)} (e : Ex [] H H') (h : TabOk K H kt M) : TabOk K H' kt M := fun a ha c hc => by
  obtain ⟨p, h1, h2⟩ := h a ha c hc
  exact ⟨p, h1, e.sqT (by simp) h2⟩
theorem EndOk.ex0 {ke : List (Key × V)} (e : Ex [] H H') (h : EndOk K H ke M) : EndOk K H' ke M := fun a ha => by
  obtain ⟨p, h1, h2⟩ := h a ha
  exact ⟨p, h1, e.sqT (by simp) h2⟩
theorem TabOk.exP {kt : List (List Key × V)} (hp : PoolAt H a) (e : Ex [a] H H') (h : TabOk K H kt M) : TabOk K H' kt M := fun b hb c hc => by
  obtain ⟨p, h1, h2⟩ := h b hb c hc
  exact ⟨p, h1, sqT_pool hp e h2⟩
theorem EndOk.exP {ke : List (Key × V)} (hp : PoolAt H a) (e : Ex [a] H H') (h : EndOk K H ke M) : EndOk K H' ke M := fun b hb => by
  obtain ⟨p, h1, h2⟩ := h b hb
  exact ⟨p, h1, sqT_pool hp e h2⟩
theorem LoopAt.ex0 (e : Ex [] H H') (h : LoopAt K H x M) : LoopAt K H' x M := by
  obtain ⟨dx, o, tt, te, tm, kt, ke, h1, h2, h3, h4, h5, h6, h7⟩ := h
  exact ⟨dx, o, tt, te, tm, kt, ke, e.get0 h1, e.sqT (by simp) h2, e.get0 h3, h4.ex0 e, e.get0 h5, h6.ex0 e, e.sqT (by simp) h7⟩
theorem LoopAt.exP (hp : PoolAt H a) (e : Ex [a] H H') (h : LoopAt K H x M) : LoopAt K H' x M := by
  obtain ⟨dx, o, tt, te, tm, kt, ke, h1, h2, h3, h4, h5, h6, h7⟩ := h
  have hq := hp
  obtain ⟨y1, y2, y3, hq⟩ := hq
  exact ⟨dx, o, tt, te, tm, kt, ke, e.get (by simp only [List.mem_singleton]; intro w; rw [w, hq] at h1; cases h1) h1, sqT_pool hp e h2, e.get (by simp only [List.mem_singleton]; intro w; rw [w, hq] at h3; cases h3) h3, h4.exP hp e, e.get (by simp only [List.mem_singleton]; intro w; rw [w, hq] at h5; cases h5) h5, h6.exP hp e, sqT_pool hp e h7⟩
/-! ### dict comprehensions -/
def DcTW (J : It) (g : TG) (tt : TT) (tk tv : TE) (vs : List Nat) (σ : St) (H1 : Hp) (Q : VK) : Prop := ∀ D, H1 D = none → ∃ W : Nat → Nat → Hp → Prop, (∃ m, W 0 m (upd H1 D (.dT []))) ∧ ∀ i m H, W i m H →
  (J.stop i H ∧ Q (.ref D) H) ∨ (J.go i H ∧ ∃ Nx : Hp → Prop, (∀ H', Nx H' → ∃ m', m' < m ∧ W (i + 1) m' H') ∧ ∀ x H', J.yld i H x H' → g x (wipe σ vs) H' fun σ2 H2 => wipe σ2 vs = wipe σ vs ∧ tt σ2 H2 fun c H3 =>
    if c = true then tk σ2 H3 fun y H4 => tv σ2 H4 fun z H5 => ∃ kvs k b, y = .ref b ∧ H5 b = some (.tup (k.map kV)) ∧ H5 D = some (.dT kvs) ∧ kvs.length < sizeLine ∧ Nx (upd H5 D (.dT (putK kvs k z))) else Nx H3)
theorem s_dcT {wi : TI} {g : TG} {tt : TT} {tk tv : TE} {vs : List Nat} {σ : St} (k : wi σ H fun J H1 => DcTW J g tt tk tv vs σ H1 Q) : tDcT wi g tt tk tv vs σ H Q := k
def DcW (J : It) (g : TG) (tt : TT) (tk tv : TE) (vs : List Nat) (σ : St) (H1 : Hp) (Q : VK) : Prop := ∀ D, H1 D = none → ∃ W : Nat → Nat → Hp → Prop, (∃ m, W 0 m (upd H1 D (.dK []))) ∧ ∀ i m H, W i m H →
  (J.stop i H ∧ Q (.ref D) H) ∨ (J.go i H ∧ ∃ Nx : Hp → Prop, (∀ H', Nx H' → ∃ m', m' < m ∧ W (i + 1) m' H') ∧ ∀ x H', J.yld i H x H' → g x (wipe σ vs) H' fun σ2 H2 => wipe σ2 vs = wipe σ vs ∧ tt σ2 H2 fun c H3 =>
    if c = true then tk σ2 H3 fun y H4 => tv σ2 H4 fun z H5 => ∃ kvs k, y = kV k ∧ H5 D = some (.dK kvs) ∧ kvs.length < sizeLine ∧ Nx (upd H5 D (.dK (putK kvs k z))) else Nx H3)
theorem s_dc {wi : TI} {g : TG} {tt : TT} {tk tv : TE} {vs : List Nat} {σ : St} (k : wi σ H fun J H1 => DcW J g tt tk tv vs σ H1 Q) : tDc wi g tt tk tv vs σ H Q := k
theorem dcT_it {J : It} {n : Nat} {G : Hp → Prop} {Y : Nat → Hp → V → Hp → Prop} (w : Walk J n G Y) {g : TG} {tt : TT} {tk tv : TE} {vs : List Nat} {σ : St} (Pv : Addr → Nat → Hp → Prop) (h0 : ∀ D, H D = none → Pv D 0 (upd H D (.dT []))) (hG : ∀ D i H1, i ≤ n → Pv D i H1 → G H1)
    (hs : ∀ D i x H1 H2, i < n → Pv D i H1 → Y i H1 x H2 → g x (wipe σ vs) H2 fun σ2 H2 => wipe σ2 vs = wipe σ vs ∧ tt σ2 H2 fun c H3 =>
      if c = true then tk σ2 H3 fun y H4 => tv σ2 H4 fun z H5 => ∃ kvs k b, y = .ref b ∧ H5 b = some (.tup (k.map kV)) ∧ H5 D = some (.dT kvs) ∧ kvs.length < sizeLine ∧ Pv D (i + 1) (upd H5 D (.dT (putK kvs k z))) else Pv D (i + 1) H3)
    (hd : ∀ D H1, H D = none → Pv D n H1 → Q (.ref D) H1) : DcTW J g tt tk tv vs σ H Q := by
  intro D hD
  refine ⟨fun i m H => m = n - i ∧ i ≤ n ∧ Pv D i H, ⟨n, by simp, Nat.zero_le _, h0 D hD⟩, ?_⟩
  rintro i m H1 ⟨rfl, hi, p⟩
  rcases Nat.lt_or_ge i n with h | h
  · exact .inr ⟨w.goes i H1 h (hG D i H1 hi p), fun H' => Pv D (i + 1) H', fun H' p' => ⟨n - (i + 1), by omega, rfl, by omega, p'⟩, fun x H' y => hs D i x H1 H' h p (w.yields i H1 x H' h (hG D i H1 hi p) y)⟩
  · have : i = n := by omega
    subst this
    exact .inl ⟨w.stops H1 (hG D _ H1 hi p), hd D H1 hD p⟩
theorem dc_it {J : It} {n : Nat} {G : Hp → Prop} {Y : Nat → Hp → V → Hp → Prop} (w : Walk J n G Y) {g : TG} {tt : TT} {tk tv : TE} {vs : List Nat} {σ : St} (Pv : Addr → Nat → Hp → Prop) (h0 : ∀ D, H D = none → Pv D 0 (upd H D (.dK []))) (hG : ∀ D i H1, i ≤ n → Pv D i H1 → G H1)
    (hs : ∀ D i x H1 H2, i < n → Pv D i H1 → Y i H1 x H2 → g x (wipe σ vs) H2 fun σ2 H2 => wipe σ2 vs = wipe σ vs ∧ tt σ2 H2 fun c H3 =>
      if c = true then tk σ2 H3 fun y H4 => tv σ2 H4 fun z H5 => ∃ kvs k, y = kV k ∧ H5 D = some (.dK kvs) ∧ kvs.length < sizeLine ∧ Pv D (i + 1) (upd H5 D (.dK (putK kvs k z))) else Pv D (i + 1) H3)
    (hd : ∀ D H1, H D = none → Pv D n H1 → Q (.ref D) H1) : DcW J g tt tk tv vs σ H Q := by
  intro D hD
  refine ⟨fun i m H => m = n - i ∧ i ≤ n ∧ Pv D i H, ⟨n, by simp, Nat.zero_le _, h0 D hD⟩, ?_⟩
  rintro i m H1 ⟨rfl, hi, p⟩
  rcases Nat.lt_or_ge i n with h | h
  · exact .inr ⟨w.goes i H1 h (hG D i H1 hi p), fun H' => Pv D (i + 1) H', fun H' p' => ⟨n - (i + 1), by omega, rfl, by omega, p'⟩, fun x H' y => hs D i x H1 H' h p (w.yields i H1 x H' h (hG D i H1 hi p) y)⟩
  · have : i = n := by omega
    subst this
    exact .inl ⟨w.stops H1 (hG D _ H1 hi p), hd D H1 hD p⟩
/-! ### made from rows and turns -/
def tbOf (rs : List Rw) (a : List Nat) (c : Nat) : List Nat × Int := ((rs.find? fun r => decide (r.a = a ∧ r.c = c)).map fun r => (r.b, r.n)).getD (a, 0)
def enOf (ts : List Tn) (a : List Nat) : List Nat × Int := ((ts.find? fun t => decide (t.a = a)).map fun t => (t.b, t.n)).getD (a, 0)
def mkLM (s : List Nat) (st : List (List Nat)) (rs : List Rw) (ts : List Tn) (ys : List (List Nat)) : LM := ⟨sgn s, st, tbOf rs, enOf ts, st.filter fun a => decide (a ∈ ys)⟩
def sp_Loop_init (K : PySem.W.Frag) : Sp := fun vs H Q _ => ∃ (x : Addr) (s : List Nat) (t u v w dx : Addr), vs = [.ref x, vS s, .ref t, .ref u, .ref v, .ref w] ∧ H x = some (.ins (He.ga K "Loop") dx []) ∧
  ∃ (st : List (List Nat)) (rs : List Rw) (ts : List Tn) (ys : List (List Nat)), goodS s ∧ SqT K H t (st.map vS) ∧ goodSt st ∧ TupsAt K H u (rs.map rwV) ∧ goodRws s st rs ∧ TupsAt K H v (ts.map tnV) ∧ goodTns st ts ∧ SqT K H w (ys.map vS) ∧ goodYes st ys ∧
  ∀ H', Ex [x] H H' → LoopAt K H' x (mkLM s st rs ts ys) → Q .non H'
end
end WB
namespace WB
open PySem PySem.Spec PyProof.Rows L2
local macro_rules | `(tactic| walk_at "lit") => `(tactic| first | exact lit_abc | exact lit_empty)
local macro_rules | `(tactic| walk_at "nm") => `(tactic| focus first | exact List.not_mem_nil | (simp only [List.mem_singleton]; first | assumption | (exact Ne.symm (by assumption)) | (intro hz; subst hz; simp_all; done)))
local macro_rules | `(tactic| walk_at "hp") => `(tactic| first | assumption | (apply Ex.get0 (by assumption); walk_at "hp") | (apply Ex.get (by assumption); (walk_at "nm"); (walk_at "hp")))
local macro_rules | `(tactic| walk_at "sq") => `(tactic| first | assumption | (apply SqL.of; walk_at "hp") | (apply Ex.sqL (by assumption); (walk_at "nm"); (walk_at "sq")))
local macro_rules | `(tactic| walk_at "sqt") => `(tactic| first | assumption | (apply SqT.of; walk_at "hp") | (apply Ex.sqT (by assumption); (walk_at "nm"); (walk_at "sqt")))
local macro_rules | `(tactic| walk_at "sz") => `(tactic| focus ((with_reducible refine Nat.le_trans (m := 100000) ?_ (by decide)); first | omega | (simp; done) | (simp; omega)))
local macro_rules | `(tactic| walk_at "mul") => `(tactic| first | exact Or.inr ⟨by omega, by omega⟩ | exact Or.inl ⟨by omega, by omega⟩)
local macro_rules | `(tactic| walk_at "pool") => `(tactic| first | assumption | (apply PoolAt.ex (by assumption); (walk_at "nm"); (walk_at "pool")))
local macro_rules | `(tactic| walk_at "ring") => `(tactic| first | assumption | (apply RingAt.ex (by assumption); (walk_at "nm"); (walk_at "ring")))
local macro_rules | `(tactic| walk_at "st") => `(tactic| first
  | with_reducible refine s_seq ?_
  | with_reducible refine s_asg ?_
  | with_reducible refine s_gName ?_
  | with_reducible refine s_ret ?_
  | with_reducible refine s_ifS ?_
  | with_reducible refine s_next ?_
  | with_reducible refine s_op ?_
  | ((with_reducible apply s_var); exact rfl)
  | ((with_reducible apply s_cS); (walk_at "lit"))
  | with_reducible refine s_c ?_
  | with_reducible refine s_cb ?_
  | with_reducible refine s_cons ?_
  | with_reducible refine s_nil ?_
  | with_reducible refine s_un ?_
  | with_reducible refine s_call ?_
  | with_reducible refine s_test ?_
  | with_reducible refine s_tB ?_
  | with_reducible refine s_blQ ?_
  | with_reducible refine s_not ?_
  | with_reducible refine s_and ?_
  | with_reducible refine s_or ?_
  | with_reducible refine s_andV ?_
  | with_reducible refine s_orV ?_
  | with_reducible refine s_notV ?_
  | with_reducible refine s_ifE ?_
  | with_reducible refine s_chain ?_
  | ((with_reducible refine s_T ?_ ?_); (with_reducible exact rfl))
  | with_reducible refine s_nT ?_
  | with_reducible refine s_nF ?_
  | ((with_reducible refine s_F ?_ ?_); (with_reducible exact rfl))
  | ((with_reducible refine s_T ?_ ?_); assumption)
  | ((with_reducible refine s_F ?_ ?_); assumption)
  | ((with_reducible refine s_nB ?_ ?_); assumption)
  | ((with_reducible refine s_nA ?_ ?_); assumption)
  | ((with_reducible refine s_Td ?_ ?_); omega)
  | ((with_reducible refine s_Fd ?_ ?_); omega)
  | ((with_reducible refine s_nTd ?_ ?_); omega)
  | ((with_reducible refine s_nFd ?_ ?_); omega)
  | with_reducible refine s_sfld ?_
  | with_reducible refine s_addI ?_
  | with_reducible refine s_subI ?_
  | ((with_reducible refine s_mulI ?_ ?_); (walk_at "mul"))
  | ((with_reducible refine s_divI ?_ ?_); exact ⟨by omega, by omega⟩)
  | ((with_reducible refine s_modI ?_ ?_); omega)
  | ((with_reducible refine s_powI ?_ ?_); exact ⟨by decide, by decide, by decide⟩)
  | with_reducible refine s_ltI ?_
  | with_reducible refine s_leI ?_
  | with_reducible refine s_gtI ?_
  | with_reducible refine s_geI ?_
  | with_reducible refine s_negI ?_
  | with_reducible refine s_absI ?_
  | with_reducible refine s_intI ?_
  | with_reducible refine s_min2 ?_
  | with_reducible refine s_max2 ?_
  | with_reducible refine s_eqI ?_
  | with_reducible refine s_neI ?_
  | with_reducible refine s_eqS ?_
  | with_reducible refine s_neS ?_
  | with_reducible refine s_inSg ?_
  | with_reducible refine s_notInSg ?_
  | ((with_reducible refine s_addS ?_ ?_); (walk_at "sz"))
  | ((with_reducible refine s_lenS ?_ ?_); (walk_at "sz"))
  | ((with_reducible apply s_lenL); (walk_at "sq"))
  | ((with_reducible apply s_lenT); (walk_at "sqt"))
  | ((with_reducible apply s_ixL); (walk_at "sq"); exact rfl)
  | ((with_reducible apply s_ixT); (walk_at "sqt"); exact rfl)
  | with_reducible refine s_gSub ?_
  | ((with_reducible apply s_setL); (walk_at "hp"); (exact rfl); (intro _ _ _))
  | ((with_reducible refine s_alloc ?_ ?_); (walk_at "sz"); (intro _ _ _ _ _))
  | ((with_reducible refine s_divmod ?_ ?_); (exact ⟨by omega, PyProof.noPylong_small (by omega)⟩); (intro _ _ _ _ _))
  | ((with_reducible apply s_gTup); (walk_at "sqt"); (exact rfl))
  | ((with_reducible apply s_gLst); (walk_at "sq"); (exact rfl))
  | with_reducible refine s_gCons ?_
  | with_reducible refine s_gNil ?_
  | with_reducible refine s_lc ?_
  | ((with_reducible apply s_cat); (walk_at "hp"); (walk_at "hp"); (walk_at "sz"); (intro _ _ _ _ _))
  | ((with_reducible apply s_slL); (walk_at "sq"); (intro _ _ _ _ _))
  | with_reducible refine s_for ?_
  | with_reducible refine s_rng1 ?_
  | ((with_reducible refine s_rng1i ?_ ?_); (constructor <;> omega))
  | with_reducible refine s_rng2 ?_
  | ((with_reducible refine s_rng2i ?_ ?_); (refine ⟨?_, ?_, ?_, ?_⟩ <;> omega))
  | with_reducible refine s_iStr ?_
  | with_reducible refine s_iStrS ?_
  | with_reducible refine s_iList ?_
  | ((with_reducible apply s_iListA); (walk_at "sq"))
  | with_reducible refine s_iTup ?_
  | ((with_reducible apply s_iTupA); (walk_at "sqt"))
  | with_reducible refine s_sl ?_
  | with_reducible refine s_noPart ?_
  | with_reducible refine s_part ?_
  | with_reducible refine s_int1 ?_
  | ((with_reducible refine s_slS ?_ ?_); (walk_at "sz"))
  | with_reducible refine s_tup ?_
  | with_reducible refine s_lst ?_
  | with_reducible refine s_par ?_
  | with_reducible refine s_pair ?_
  | with_reducible refine s_M1 ?_
  | with_reducible refine s_isStr ?_
  | with_reducible refine s_revS ?_
  | ((with_reducible refine s_revS1 ?_ ?_); (walk_at "sz"))
  | with_reducible refine s_fldE ?_
  | with_reducible refine s_propE ?_
  | ((with_reducible refine u_draw ?_ ?_ ?_ ?_); omega; omega; (walk_at "pool"); (intro _ _ _ _ _ _))
  | ((with_reducible refine u_pool ?_); (intro _ _ _ _ _))
  | with_reducible refine u_is_integer ?_
  | with_reducible refine s_isiII ?_
  | with_reducible refine s_isiIB ?_
  | with_reducible refine s_isiSS ?_
  | ((with_reducible apply u_fldRing); assumption; (walk_at "ring"))
  | ((with_reducible apply u_textP); (walk_at "ring"))
  | ((with_reducible apply u_strRing); (walk_at "ring"))
  | ((with_reducible apply u_eqRing); (walk_at "ring"); (walk_at "ring"))
  | ((with_reducible apply u_isiRing); assumption; (walk_at "ring"))
  | ((with_reducible refine u_is_word ?_ ?_); omega; (intro _ _))
  | ((with_reducible refine u_turnings ?_ ?_); omega; (intro _ _ _ _ _))
  | with_reducible refine s_makeE ?_
  | with_reducible refine s_methE ?_)
local macro_rules | `(tactic| walk_at "go") => `(tactic| repeat (walk_at "st"))
local macro_rules | `(tactic| walk_at "exs") => `(tactic| first | exact Ex.rfl | assumption | (apply Ex.snoc (by assumption); walk_at "exs") | (apply Ex.snocW (by assumption); walk_at "exs"))
local macro_rules | `(tactic| walk_at "kind") => `(tactic| first | assumption | (apply KindAt.ex0 (by assumption); (walk_at "kind")) | (apply KindAt.exP (by assumption) (by assumption); (walk_at "kind")))
local macro_rules | `(tactic| walk_at "st") => `(tactic| first
  | with_reducible refine s_lenSet ?_
  | with_reducible refine s_drop ?_
  | with_reducible refine s_bm ?_
  | with_reducible refine s_notN ?_
  | with_reducible refine s_isN ?_
  | ((with_reducible apply s_tyL); (walk_at "hp"))
  | with_reducible refine s_enumT ?_
  | ((with_reducible apply s_enumTA); (walk_at "sqt"))
  | with_reducible refine s_lc2 ?_)
local macro_rules | `(tactic| walk_at "lit") => `(tactic| exact lit_MRK)
local macro_rules | `(tactic| walk_at "st") => `(tactic| first
  | with_reducible refine s_dcT ?_
  | with_reducible refine s_dc ?_)
/-- Loop.__init__: 0 self 1 signs 2 states 3 rows 4 turns 5 yes 6 state 7 sign 8 later 9 amount 10 given -/
def t_Loop_init (K : PySem.W.Frag) : TS :=
  (tSeq (tDrop (tCall (sp_check_signs K) [] E0 (tCons (tVar 1) tNil)))
  (tSeq (tDrop (tCall (sp_check_states K) [] E0 (tCons (tVar 2) tNil)))
  (tSeq (tDrop (tCall (sp_check_rows K) [] E0 (tCons (tVar 1) (tCons (tVar 2) (tCons (tVar 3) tNil)))))
  (tSeq (tDrop (tCall (sp_check_turns K) [] E0 (tCons (tVar 2) (tCons (tVar 4) tNil))))
  (tSeq (tDrop (tCall (sp_check_yes K) [] E0 (tCons (tVar 2) (tCons (tVar 5) tNil))))
  (tSeq (sFld K (tVar 0) (tM1 (rJoin K) (tC (.str "")) (tCB (rSrt K) (tCons (tVar 1) tNil))) "letters")
  (tSeq (sFld K (tVar 0) (tVar 2) "order")
  (tSeq (sFld K (tVar 0) (tDcT (iTup K (tVar 3)) (gTup K 4 (gCons (gName 6) (gCons (gName 7) (gCons (gName 8) (gCons (gName 9) gNil))))) tYes (tTup (tCons (tVar 6) (tCons (tVar 7) tNil))) (tTup (tCons (tVar 8) (tCons (tVar 9) tNil))) [6, 7, 8, 9]) "table")
  (tSeq (tAsg (tDc (iTup K (tVar 4)) (gTup K 3 (gCons (gName 6) (gCons (gName 8) (gCons (gName 9) gNil)))) tYes (tVar 6) (tTup (tCons (tVar 8) (tCons (tVar 9) tNil))) [6, 8, 9]) (gName 10))
  (tSeq (sFld K (tVar 0) (tDc (iTup K (tVar 2)) (gName 6) tYes (tVar 6) (tDGet2 (tVar 10) (tVar 6) (tTup (tCons (tVar 6) (tCons (tC (.int 0)) tNil)))) [6]) "ending")
  (sFld K (tVar 0) (tCB (rTupOf K) (tCons (tLc (iTup K (tVar 2)) (gName 6) (tTest (tOp (rIn K false) (tVar 6) (tVar 5))) (tVar 6) [6]) tNil)) "marked")))))))))))
section
variable {K : PySem.W.Frag} {vs : List V} {H H' : Hp} {Q : VK} {E : XK}
theorem sqT_ins {x t C dx : Addr} {fs : List (Str × V)} {ys : List V} (hx : H x = some (.ins C dx fs)) (e : Ex [x] H H') (h : SqT K H t ys) : SqT K H' t ys := by
  rcases h with (h | ⟨o, h⟩) | h
  · exact e.sqT (by simp only [List.mem_singleton]; intro w; rw [w, hx] at h; cases h) (.inl (.inl h))
  · exact e.sqT (by simp only [List.mem_singleton]; intro w; rw [w, hx] at h; cases h) (.inl (.inr ⟨o, h⟩))
  · exact .inr h
theorem TupsAt.exI {x t C dx : Addr} {fs : List (Str × V)} {ls : List (List V)} (hx : H x = some (.ins C dx fs)) (e : Ex [x] H H') (h : TupsAt K H t ls) : TupsAt K H' t ls := by
  obtain ⟨xs, h1, h2, h3⟩ := h
  refine ⟨xs, sqT_ins hx e h1, h2, fun i y l hy hl => ?_⟩
  obtain ⟨p, h4, h5⟩ := h3 i y l hy hl
  exact ⟨p, h4, sqT_ins hx e h5⟩
theorem s_setF {f : Str} {y : V} {n : Hp → Prop} {x C dx : Addr} {fs : List (Str × V)} (hx : H x = some (.ins C dx fs)) (c : Cls K C) (na : NoAttr K C f) (hl : fs.length < 30) (k : ∀ H', Ex [x] H H' → H' x = some (.ins C dx (putF f y fs)) → n H') : SetG K f y (.ref x) H n :=
  ⟨x, _, dx, _, rfl, hx, c, na, by first | exact hl | omega, k _ (Ex.put (by simp)) upd_same⟩
/-- the table, as far as it is -/
def TabR (K : PySem.W.Frag) (H : Hp) (kvs : List (List Key × V)) (rs : List Rw) : Prop := ∀ r ∈ rs, ∃ p, valV kvs [kS r.a, kS [r.c]] = some (.ref p) ∧ SqT K H p [vS r.b, .int r.n]
def EndR (K : PySem.W.Frag) (H : Hp) (kvs : List (Key × V)) (ts : List Tn) : Prop := ∀ t ∈ ts, ∃ p, valV kvs (kS t.a) = some (.ref p) ∧ SqT K H p [vS t.b, .int t.n]
theorem key2 {a b : List Nat} {c d : Nat} (h : [kS a, kS [c]] = [kS b, kS [d]]) : a = b ∧ c = d := by
  injection h with h1 h2
  injection h2 with h2 _
  have := kS_inj h2
  exact ⟨kS_inj h1, by simpa using this⟩
theorem tab_all {s : List Nat} {st : List (List Nat)} {rs : List Rw} (h : goodRws s st rs) {a : List Nat} {c : Nat} (ha : a ∈ st) (hc : c ∈ s) : ∃ r ∈ rs, r.a = a ∧ r.c = c := by
  obtain ⟨g1, g2, g3⟩ := h
  have hp := perm_of_sub (rs.map fun r => (r.a, r.c)) (st.flatMap fun a => s.map fun c => (a, c)) g2 (fun p hp => by
    obtain ⟨r, hr, rfl⟩ := List.mem_map.mp hp
    exact List.mem_flatMap.mpr ⟨r.a, (g1 r hr).1, List.mem_map.mpr ⟨r.c, (g1 r hr).2.1, rfl⟩⟩) (by
    rw [List.length_map, g3, List.length_flatMap]
    simp only [List.length_map]
    have : ∀ (l : List (List Nat)) (n : Nat), (l.map fun _ => n).sum = l.length * n := by
      intro l n
      induction l with
      | nil => simp
      | cons x l ih => rw [List.map_cons, List.sum_cons, ih, List.length_cons, Nat.succ_mul]; omega
    rw [this, Nat.mul_comm]
    exact Nat.le_refl _)
  have := hp.mem_iff.mpr (List.mem_flatMap.mpr ⟨a, ha, List.mem_map.mpr ⟨c, hc, rfl⟩⟩)
  obtain ⟨r, hr, e⟩ := List.mem_map.mp this
  injection e with e1 e2
  exact ⟨r, hr, e1, e2⟩
theorem tb_of {rs : List Rw} (g2 : (rs.map fun r => (r.a, r.c)).Nodup) : ∀ {r : Rw}, r ∈ rs → tbOf rs r.a r.c = (r.b, r.n) := by
  induction rs with
  | nil => intro r h; cases h
  | cons x rs ih =>
    intro r h
    obtain ⟨h1, h2⟩ := List.nodup_cons.mp g2
    unfold tbOf
    rw [List.find?_cons]
    rcases List.mem_cons.mp h with rfl | h
    · simp
    · have : ¬ (x.a = r.a ∧ x.c = r.c) := fun z => h1 (List.mem_map.mpr ⟨r, h, by simp only [z.1, z.2]⟩)
      rw [decide_eq_false this]
      exact ih h2 h
theorem en_of {ts : List Tn} (g2 : (ts.map fun t => t.a).Nodup) : ∀ {t : Tn}, t ∈ ts → enOf ts t.a = (t.b, t.n) := by
  induction ts with
  | nil => intro r h; cases h
  | cons x ts ih =>
    intro r h
    obtain ⟨h1, h2⟩ := List.nodup_cons.mp g2
    unfold enOf
    rw [List.find?_cons]
    rcases List.mem_cons.mp h with rfl | h
    · simp
    · have : ¬ (x.a = r.a) := fun z => h1 (List.mem_map.mpr ⟨r, h, z.symm⟩)
      rw [decide_eq_false this]
      exact ih h2 h
theorem en_no {ts : List Tn} {a : List Nat} (h : a ∉ ts.map fun t => t.a) : enOf ts a = (a, 0) := by
  unfold enOf
  rw [List.find?_eq_none.mpr fun t ht => by
    simp only [decide_eq_true_eq]
    exact fun z => h (List.mem_map.mpr ⟨t, ht, z⟩)]
  rfl
theorem upd_TabR {D : Addr} {o : HO} {kvs : List (List Key × V)} {rs : List Rw} (h1 : ∃ ks, H D = some (.dT ks)) (h : TabR K H kvs rs) : TabR K (upd H D o) kvs rs := fun r hr => by
  obtain ⟨p, h2, h3⟩ := h r hr
  obtain ⟨ks, h1⟩ := h1
  refine ⟨p, h2, ?_⟩
  have e : Ex [D] H (upd H D o) := Ex.put (by simp)
  rcases h3 with (h | ⟨ob, h⟩) | h
  · exact e.sqT (by simp only [List.mem_singleton]; intro w; rw [w, h1] at h; cases h) (.inl (.inl h))
  · exact e.sqT (by simp only [List.mem_singleton]; intro w; rw [w, h1] at h; cases h) (.inl (.inr ⟨ob, h⟩))
  · exact .inr h
theorem dc_table {u : Addr} {rs : List Rw} {σ : St} {a1 a2 a3 a4 : Nat} (τ : V → V → V → V → St)
    (hτ : ∀ A B C D, ((((wipe σ [a1, a2, a3, a4]).set a1 (some A)).set a2 (some B)).set a3 (some C)).set a4 (some D) = τ A B C D) (hw : ∀ A B C D, wipe (τ A B C D) [a1, a2, a3, a4] = wipe σ [a1, a2, a3, a4])
    (l1 : ∀ A B C D, (τ A B C D)[a1]? = some (some A)) (l2 : ∀ A B C D, (τ A B C D)[a2]? = some (some B)) (l3 : ∀ A B C D, (τ A B C D)[a3]? = some (some C)) (l4 : ∀ A B C D, (τ A B C D)[a4]? = some (some D))
    (hu : TupsAt K H u (rs.map rwV)) (hn : rs.length ≤ 1000) (g2 : (rs.map fun r => (r.a, r.c)).Nodup)
    (k : ∀ D H' kvs, H D = none → Ex [] H H' → H' D = some (.dT kvs) → TabR K H' kvs rs → Q (.ref D) H') :
    ∃ b, V.ref u = .ref b ∧ (∃ xs, SqT K H b xs) ∧ DcTW (Itt K b) (gTup K 4 (gCons (gName a1) (gCons (gName a2) (gCons (gName a3) (gCons (gName a4) gNil))))) tYes (tTup (tCons (tVar a1) (tCons (tVar a2) tNil))) (tTup (tCons (tVar a3) (tCons (tVar a4) tNil))) [a1, a2, a3, a4] σ H Q := by
  obtain ⟨xs, hxs, hxl, hxp⟩ := hu
  rw [List.length_map] at hxl
  refine ⟨u, rfl, ⟨xs, hxs⟩, dcT_it (walk_tup (xs := xs)) (fun D i H1 => Ex [] H H1 ∧ H D = none ∧ ∃ kvs, H1 D = some (.dT kvs) ∧ kvs.length ≤ i ∧ TabR K H1 kvs (rs.take i)) (fun D hD => ⟨Ex.new hD, hD, [], upd_same, Nat.le_refl _, by intro r hr; simp at hr⟩) (fun D i H1 _ h => h.1.sqT (by simp) hxs) ?_ ?_⟩
  · rintro D i x H1 H2 hi ⟨e1, hD, kvs, h1, hl, ht⟩ ⟨rfl, hx⟩
    have hit : i < rs.length := by omega
    obtain ⟨p, rfl, hp⟩ := hxp i x (rwV rs[i]) hx (by rw [List.getElem?_map, List.getElem?_eq_getElem hit]; rfl)
    refine s_gTup (e1.sqT (by simp) hp) rfl ?_
    unfold rwV
    refine s_gCons ?_
    refine s_gName ?_
    refine s_gCons ?_
    refine s_gName ?_
    refine s_gCons ?_
    refine s_gName ?_
    refine s_gCons ?_
    refine s_gName ?_
    refine s_gNil ?_
    rw [hτ]
    refine ⟨hw _ _ _ _, ?_⟩
    refine s_yes ?_
    refine s_T rfl ?_
    refine s_tup ?_
    refine s_cons ?_
    refine s_var (l1 _ _ _ _) ?_
    refine s_cons ?_
    refine s_var (l2 _ _ _ _) ?_
    refine s_nil ?_
    refine s_alloc (by show 2 ≤ sizeLine; decide) fun q3 H3 n3 e3 h3 => ?_
    refine s_tup ?_
    refine s_cons ?_
    refine s_var (l3 _ _ _ _) ?_
    refine s_cons ?_
    refine s_var (l4 _ _ _ _) ?_
    refine s_nil ?_
    refine s_alloc (by show 2 ≤ sizeLine; decide) fun q4 H4 n4 e4 h4 => ?_
    have hD4 : H4 D = some (.dT kvs) := e4.get0 (e3.get0 h1)
    refine ⟨kvs, [kS rs[i].a, kS [rs[i].c]], q3, rfl, e4.get0 h3, hD4, Nat.lt_of_le_of_lt hl (Nat.lt_of_lt_of_le hit (Nat.le_trans hn (by decide))), ?_, hD, _, upd_same, ?_, ?_⟩
    · intro b o nb hb
      rw [upd_ne (ne_of_none hb hD)]
      exact e4.get0 (e3.get0 (e1 b o nb hb))
    · have := length_putK kvs [kS rs[i].a, kS [rs[i].c]] (.ref q4)
      omega
    · intro r hr
      have hT : TabR K H4 kvs (rs.take i) := fun r hr => by
        obtain ⟨p, z1, z2⟩ := ht r hr
        exact ⟨p, z1, (e3.trans e4).sqT (by simp) z2⟩
      rw [List.take_add_one, List.getElem?_eq_getElem hit] at hr
      rcases List.mem_append.mp hr with hr | hr
      · obtain ⟨p', z1, z2⟩ := upd_TabR (o := .dT (putK kvs [kS rs[i].a, kS [rs[i].c]] (.ref q4))) ⟨_, hD4⟩ hT r hr
        refine ⟨p', ?_, z2⟩
        rw [valV_put, if_neg, z1]
        intro z
        obtain ⟨z3, z4⟩ := key2 z
        have := not_mem_take g2 (i := i) (by rw [List.length_map]; exact hit)
        rw [List.getElem_map, ← List.map_take] at this
        exact this (List.mem_map.mpr ⟨r, hr, by simp only [z3, z4]⟩)
      · have hr' : r = rs[i] := by simpa using hr
        subst hr'
        refine ⟨q4, by rw [valV_put, if_pos rfl], SqT.of ?_⟩
        rw [upd_ne (fun z => by rw [z, hD4] at h4; cases h4)]
        exact h4
  · rintro D H1 hD ⟨e1, _, kvs, h1, hl, ht⟩
    rw [hxl, List.take_length] at ht
    exact k D H1 kvs hD e1 h1 ht
/-- what given holds -/
def GivR (K : PySem.W.Frag) (H : Hp) (kvs : List (Key × V)) (ts : List Tn) : Prop := EndR K H kvs ts ∧ ∀ a, a ∉ ts.map (fun t => t.a) → valV kvs (kS a) = none
theorem sqT_dK {D t : Addr} {ks : List (Key × V)} {xs : List V} {o : HO} (h1 : H D = some (.dK ks)) (h : SqT K H t xs) : SqT K (upd H D o) t xs := by
  have e : Ex [D] H (upd H D o) := Ex.put (by simp)
  rcases h with (h | ⟨ob, h⟩) | h
  · exact e.sqT (by simp only [List.mem_singleton]; intro w; rw [w, h1] at h; cases h) (.inl (.inl h))
  · exact e.sqT (by simp only [List.mem_singleton]; intro w; rw [w, h1] at h; cases h) (.inl (.inr ⟨ob, h⟩))
  · exact .inr h
theorem dc_given {u : Addr} {ts : List Tn} {σ : St} {a1 a2 a3 : Nat} (τ : V → V → V → St)
    (hτ : ∀ A B C, (((wipe σ [a1, a2, a3]).set a1 (some A)).set a2 (some B)).set a3 (some C) = τ A B C) (hw : ∀ A B C, wipe (τ A B C) [a1, a2, a3] = wipe σ [a1, a2, a3])
    (l1 : ∀ A B C, (τ A B C)[a1]? = some (some A)) (l2 : ∀ A B C, (τ A B C)[a2]? = some (some B)) (l3 : ∀ A B C, (τ A B C)[a3]? = some (some C))
    (hu : TupsAt K H u (ts.map tnV)) (hn : ts.length ≤ 1000) (g2 : (ts.map fun r => r.a).Nodup)
    (k : ∀ D H' kvs, H D = none → Ex [] H H' → H' D = some (.dK kvs) → GivR K H' kvs ts → Q (.ref D) H') :
    ∃ b, V.ref u = .ref b ∧ (∃ xs, SqT K H b xs) ∧ DcW (Itt K b) (gTup K 3 (gCons (gName a1) (gCons (gName a2) (gCons (gName a3) gNil)))) tYes (tVar a1) (tTup (tCons (tVar a2) (tCons (tVar a3) tNil))) [a1, a2, a3] σ H Q := by
  obtain ⟨xs, hxs, hxl, hxp⟩ := hu
  rw [List.length_map] at hxl
  refine ⟨u, rfl, ⟨xs, hxs⟩, dc_it (walk_tup (xs := xs)) (fun D i H1 => Ex [] H H1 ∧ H D = none ∧ ∃ kvs, H1 D = some (.dK kvs) ∧ kvs.length ≤ i ∧ GivR K H1 kvs (ts.take i)) (fun D hD => ⟨Ex.new hD, hD, [], upd_same, Nat.le_refl _, by intro r hr; simp at hr, fun _ _ => rfl⟩) (fun D i H1 _ h => h.1.sqT (by simp) hxs) ?_ ?_⟩
  · rintro D i x H1 H2 hi ⟨e1, hD, kvs, h1, hl, ht, hno⟩ ⟨rfl, hx⟩
    have hit : i < ts.length := by omega
    obtain ⟨p, rfl, hp⟩ := hxp i x (tnV ts[i]) hx (by rw [List.getElem?_map, List.getElem?_eq_getElem hit]; rfl)
    refine s_gTup (e1.sqT (by simp) hp) rfl ?_
    unfold tnV
    refine s_gCons ?_
    refine s_gName ?_
    refine s_gCons ?_
    refine s_gName ?_
    refine s_gCons ?_
    refine s_gName ?_
    refine s_gNil ?_
    rw [hτ]
    refine ⟨hw _ _ _, ?_⟩
    refine s_yes ?_
    refine s_T rfl ?_
    refine s_var (l1 _ _ _) ?_
    refine s_tup ?_
    refine s_cons ?_
    refine s_var (l2 _ _ _) ?_
    refine s_cons ?_
    refine s_var (l3 _ _ _) ?_
    refine s_nil ?_
    refine s_alloc (by show 2 ≤ sizeLine; decide) fun q4 H4 n4 e4 h4 => ?_
    have hD4 : H4 D = some (.dK kvs) := e4.get0 h1
    have hni := not_mem_take g2 (i := i) (by rw [List.length_map]; exact hit)
    rw [List.getElem_map, ← List.map_take] at hni
    refine ⟨kvs, kS ts[i].a, rfl, hD4, Nat.lt_of_le_of_lt hl (Nat.lt_of_lt_of_le hit (Nat.le_trans hn (by decide))), ?_, hD, _, upd_same, ?_, ?_, ?_⟩
    · intro b o nb hb
      rw [upd_ne (ne_of_none hb hD)]
      exact e4.get0 (e1 b o nb hb)
    · have := length_putK kvs (kS ts[i].a) (.ref q4)
      omega
    · intro r hr
      rw [List.take_add_one, List.getElem?_eq_getElem hit] at hr
      rcases List.mem_append.mp hr with hr | hr
      · obtain ⟨p', z1, z2⟩ := ht r hr
        refine ⟨p', ?_, sqT_dK hD4 (e4.sqT (by simp) z2)⟩
        rw [valV_put, if_neg, z1]
        intro z
        exact hni (List.mem_map.mpr ⟨r, hr, kS_inj z⟩)
      · have hr' : r = ts[i] := by simpa using hr
        subst hr'
        refine ⟨q4, by rw [valV_put, if_pos rfl], SqT.of ?_⟩
        rw [upd_ne (fun z => by rw [z, hD4] at h4; cases h4)]
        exact h4
    · intro a ha
      rw [take1 (fun t => t.a) hit] at ha
      rw [valV_put, if_neg (fun z => ha (by rw [kS_inj z]; simp)), hno a (fun z => ha (List.mem_append_left _ z))]
  · rintro D H1 hD ⟨e1, _, kvs, h1, hl, ht⟩
    rw [hxl, List.take_length] at ht
    exact k D H1 kvs hD e1 h1 ht
theorem dc_ending {t d : Addr} {st : List (List Nat)} {ts : List Tn} {kg : List (Key × V)} {σ : St} {a1 g : Nat} (τ : V → St)
    (hτ : ∀ A, (wipe σ [a1]).set a1 (some A) = τ A) (hw : ∀ A, wipe (τ A) [a1] = wipe σ [a1])
    (l1 : ∀ A, (τ A)[a1]? = some (some A)) (l2 : ∀ A, (τ A)[g]? = some (some (.ref d))) (ht : SqT K H t (st.map vS)) (hn : st.length ≤ 1000) (g3 : st.Nodup) (hd : H d = some (.dK kg)) (hg : GivR K H kg ts) (g2 : (ts.map fun r => r.a).Nodup)
    (k : ∀ D H' kvs, H D = none → Ex [] H H' → H' D = some (.dK kvs) → (∀ a ∈ st, ∃ p, valV kvs (kS a) = some (.ref p) ∧ SqT K H' p [vS (enOf ts a).1, .int (enOf ts a).2]) → Q (.ref D) H') :
    DcW (Itt K t) (gName a1) tYes (tVar a1) (tDGet2 (tVar g) (tVar a1) (tTup (tCons (tVar a1) (tCons (tC (.int 0)) tNil)))) [a1] σ H Q := by
  refine dc_it (walk_tup (xs := st.map vS)) (fun D i H1 => Ex [] H H1 ∧ H D = none ∧ ∃ kvs, H1 D = some (.dK kvs) ∧ kvs.length ≤ i ∧ ∀ a ∈ st.take i, ∃ p, valV kvs (kS a) = some (.ref p) ∧ SqT K H1 p [vS (enOf ts a).1, .int (enOf ts a).2]) (fun D hD => ⟨Ex.new hD, hD, [], upd_same, Nat.le_refl _, by intro r hr; simp at hr⟩) (fun D i H1 _ h => h.1.sqT (by simp) ht) ?_ ?_
  · rintro D i x H1 H2 hi ⟨e1, hD, kvs, h1, hl, hh⟩ ⟨rfl, hx⟩
    rw [List.length_map] at hi
    rw [List.getElem?_map, List.getElem?_eq_getElem hi] at hx
    cases hx
    refine s_gName ?_
    rw [hτ]
    refine ⟨hw _, ?_⟩
    refine s_yes ?_
    refine s_T rfl ?_
    refine s_var (l1 _) ?_
    refine s_var (l2 _) ?_
    refine ⟨d, rfl, .inl ⟨kg, .inl (e1.get0 hd)⟩, ?_⟩
    refine s_var (l1 _) ?_
    refine s_tup ?_
    refine s_cons ?_
    refine s_var (l1 _) ?_
    refine s_cons ?_
    refine s_c ?_
    refine s_nil ?_
    refine s_alloc (by show 2 ≤ sizeLine; decide) fun q4 H4 n4 e4 h4 => ?_
    have hD4 : H4 D = some (.dK kvs) := e4.get0 h1
    refine ⟨_, DGet.k (k := kS st[i]) ((e1.trans e4).get0 hd), ?_⟩
    have fin : ∀ p, SqT K H4 p [vS (enOf ts st[i]).1, .int (enOf ts st[i]).2] → ∃ kvs k, vS st[i] = kV k ∧ H4 D = some (.dK kvs) ∧ kvs.length < sizeLine ∧ (Ex [] H (upd H4 D (.dK (putK kvs k (.ref p)))) ∧ H D = none ∧ ∃ kvs', (upd H4 D (.dK (putK kvs k (.ref p)))) D = some (.dK kvs') ∧ kvs'.length ≤ i + 1 ∧ ∀ a ∈ st.take (i + 1), ∃ p', valV kvs' (kS a) = some (.ref p') ∧ SqT K (upd H4 D (.dK (putK kvs k (.ref p)))) p' [vS (enOf ts a).1, .int (enOf ts a).2]) := by
      intro p hp
      refine ⟨kvs, kS st[i], rfl, hD4, Nat.lt_of_le_of_lt hl (Nat.lt_of_lt_of_le hi (Nat.le_trans hn (by decide))), ?_, hD, _, upd_same, ?_, ?_⟩
      · intro b o nb hb
        rw [upd_ne (ne_of_none hb hD)]
        exact e4.get0 (e1 b o nb hb)
      · have := length_putK kvs (kS st[i]) (.ref p)
        omega
      · intro a ha
        rw [List.take_add_one, List.getElem?_eq_getElem hi] at ha
        rcases List.mem_append.mp ha with ha | ha
        · obtain ⟨p', z1, z2⟩ := hh a ha
          refine ⟨p', ?_, sqT_dK hD4 (e4.sqT (by simp) z2)⟩
          rw [valV_put, if_neg, z1]
          intro z
          exact not_mem_take g3 hi (by rw [← kS_inj z]; exact ha)
        · have hr' : a = st[i] := by simpa using ha
          subst hr'
          exact ⟨p, by rw [valV_put, if_pos rfl], sqT_dK hD4 hp⟩
    by_cases hin : st[i] ∈ ts.map fun t => t.a
    · obtain ⟨r, hr, er⟩ := List.mem_map.mp hin
      obtain ⟨p, z1, z2⟩ := hg.1 r hr
      rw [← er, z1]
      have := fin p (by rw [← er, en_of g2 hr]; exact (e1.trans e4).sqT (by simp) z2)
      rw [← er] at this
      exact this
    · rw [hg.2 _ hin]
      exact fin q4 (by rw [en_no hin]; exact SqT.of h4)
  · rintro D H1 hD ⟨e1, _, kvs, h1, hl, hh⟩
    rw [List.length_map, List.take_length] at hh
    exact k D H1 kvs hD e1 h1 hh
theorem lc_fmT {b : Addr} {ls : List (List Nat)} {j : Nat} {tt : TT} {te : TE} {σ : St} (hq : SqT K H b (ls.map vS)) (hn : ls.length ≤ 100000) (pr : List Nat → Bool) (val : List Nat → V)
    (h : ∀ (x : List Nat) (H1 : Hp) (C1 : VK) (C0 : Hp → Prop), x ∈ ls → Ex [] H H1 → (∀ H2, Ex [] H1 H2 → pr x = true → C1 (val x) H2) → (∀ H2, Ex [] H1 H2 → pr x = false → C0 H2) →
      tt ((wipe σ [j]).set j (some (vS x))) H1 fun b H2 => if b = true then te ((wipe σ [j]).set j (some (vS x))) H2 C1 else C0 H2)
    (k : ∀ D H', H D = none → Ex [] H H' → H' D = some (.lst ((ls.filter pr).map val)) → Q (.ref D) H') : LcW (Itt K b) (gName j) tt te [j] σ H Q := by
  refine lc_run (walk_tup (xs := ls.map vS)) (by rw [List.length_map]; exact hn) [] (fun _ => True) (fun i acc _ => acc = ((ls.take i).filter pr).map val) (by simp) trivial (by simp) (fun _ _ _ _ _ => trivial) (fun _ _ _ _ _ _ h => h) (fun H1 e => e.sqT (by simp) hq) ?_ ?_
  · rintro i acc x H1 H2 C1 C0 hi e _ rfl ⟨rfl, hx⟩ k1 k0
    rw [List.length_map] at hi
    rw [List.getElem?_map, List.getElem?_eq_getElem hi] at hx
    cases hx
    refine ⟨wipe1 _ _ _, ?_⟩
    refine h ls[i] _ C1 C0 (List.getElem_mem hi) e (fun H5 e5 hp => k1 _ H5 e5 trivial ?_) (fun H5 e5 hp => k0 H5 e5 trivial ?_)
    · rw [List.take_add_one, List.getElem?_eq_getElem hi, List.filter_append, List.map_append]
      simp [hp]
    · rw [List.take_add_one, List.getElem?_eq_getElem hi, List.filter_append, List.map_append]
      simp [hp]
  · rintro D H' ys hD e _ hd _ rfl
    rw [List.length_map, List.take_length] at hd
    exact k D H' hD e hd
theorem pure_Loop_init (F : LoopK K) (h : sp_Loop_init K vs H Q E) : t_Loop_init K (E1 Q) (start ["self", "signs", "states", "rows", "turns", "yes", "state", "sign", "later", "amount", "given"] vs) H := by
  obtain ⟨x, s, t, u, v, w, dx, rfl, hx, st, rs, ts, ys, hs, ht, hst, hu, hrs, hv, hts, hw, hys, k⟩ := h
  have h4 := hs.2.1
  show t_Loop_init K (E1 Q) [some (.ref x), some (vS s), some (.ref t), some (.ref u), some (.ref v), some (.ref w), none, none, none, none, none] H
  unfold t_Loop_init
  walk_at "go"
  refine u_check_signs hs fun H1 e1 => ?_
  walk_at "go"
  refine u_check_states (e1.sqT (by simp) ht) hst fun H2 e2 => ?_
  have e02 := e1.trans e2
  walk_at "go"
  refine u_check_rows hs (e02.sqT (by simp) ht) hst (hu.ex0 e02) hrs fun H3 e3 => ?_
  have e03 := e02.trans e3
  walk_at "go"
  refine u_check_turns (e03.sqT (by simp) ht) hst (hv.ex0 e03) hts fun H4 e4 => ?_
  have e04 := e03.trans e4
  walk_at "go"
  refine u_check_yes (e04.sqT (by simp) ht) (e04.sqT (by simp) hw) hys fun H5 e5 => ?_
  have e05 := e04.trans e5
  clear e1 e2 e3 e4 e5 e02 e03 e04
  walk_at "go"
  refine s_srtS (by omega) fun p2 H6 n6 e6 h6 => ?_
  have e06 := e05.trans e6
  clear e05 e6
  walk_at "go"
  refine s_join0 (ls := srt (s.map fun c => [c])) (SqL.of h6) (by rw [flat_len1]; omega) ?_
  walk_at "go"
  refine s_setF (e06.get0 hx) F.cl F.n1 (by simp) fun H7 e7 h7 => ?_
  have e07 : Ex [x] H H7 := e06.wide.trans e7
  have ht7 := sqT_ins (e06.get0 hx) e7 (e06.sqT (by simp) ht)
  have hw7 := sqT_ins (e06.get0 hx) e7 (e06.sqT (by simp) hw)
  have hu7 := (hu.ex0 e06).exI (e06.get0 hx) e7
  have hv7 := (hv.ex0 e06).exI (e06.get0 hx) e7
  clear e7 h6
  walk_at "go"
  refine s_setF h7 F.cl F.n2 (show (1 : Nat) < 30 by decide) fun H8 e8 h8 => ?_
  have e08 : Ex [x] H H8 := e07.trans e8
  have ht8 := sqT_ins h7 e8 ht7
  have hw8 := sqT_ins h7 e8 hw7
  have hu8 := hu7.exI h7 e8
  have hv8 := hv7.exI h7 e8
  clear e8 e07 h7 ht7 hw7 hu7 hv7
  have hrl : rs.length ≤ 24 := by rw [hrs.2.2]; exact Nat.mul_le_mul h4 hst.2.1
  have htl : ts.length ≤ 6 := by
    have := nodup_le _ st hts.2 fun a ha => by obtain ⟨t, h1, rfl⟩ := List.mem_map.mp ha; exact (hts.1 t h1).1
    rw [List.length_map] at this
    exact Nat.le_trans this hst.2.1
  walk_at "go"
  refine dc_table (fun A B C D => [some (.ref x), some (vS s), some (.ref t), some (.ref u), some (.ref v), some (.ref w), some A, some B, some C, some D, none]) (fun _ _ _ _ => rfl) (fun _ _ _ _ => rfl) (fun _ _ _ _ => rfl) (fun _ _ _ _ => rfl) (fun _ _ _ _ => rfl) (fun _ _ _ _ => rfl) hu8 (by omega) hrs.2.1 fun tt H9 kt n9 e9 h9 hT => ?_
  walk_at "go"
  have hx9 := e9.get0 h8
  refine s_setF hx9 F.cl F.n3 (show (2 : Nat) < 30 by decide) fun H10 e10 h10 => ?_
  have e010 : Ex [x] H H10 := (e08.trans e9.wide).trans e10
  have ht10 := sqT_ins hx9 e10 (e9.sqT (by simp) ht8)
  have hw10 := sqT_ins hx9 e10 (e9.sqT (by simp) hw8)
  have hv10 := (hv8.ex0 e9).exI hx9 e10
  have htt10 : H10 tt = some (.dT kt) := e10.get (by simp only [List.mem_singleton]; intro z; rw [z, hx9] at h9; cases h9) h9
  have hT10 : TabR K H10 kt rs := fun r hr => by
    obtain ⟨p, z1, z2⟩ := hT r hr
    exact ⟨p, z1, sqT_ins hx9 e10 z2⟩
  clear e10 e9 e08 hx9 h9 hT ht8 hw8 hu8 hv8
  walk_at "go"
  refine dc_given (fun A B C => [some (.ref x), some (vS s), some (.ref t), some (.ref u), some (.ref v), some (.ref w), some A, none, some B, some C, none]) (fun _ _ _ => rfl) (fun _ _ _ => rfl) (fun _ _ _ => rfl) (fun _ _ _ => rfl) (fun _ _ _ => rfl) hv10 (by omega) hts.2 fun d H11 kg n11 e11 h11 hG => ?_
  walk_at "go"
  refine dc_ending (d := d) (g := 10) (a1 := 6) (fun A => [some (.ref x), some (vS s), some (.ref t), some (.ref u), some (.ref v), some (.ref w), some A, none, none, none, some (.ref d)]) (fun _ => rfl) (fun _ => rfl) (fun _ => rfl) (fun _ => rfl) (e11.sqT (by simp) ht10) (by have := hst.2.1; omega) hst.2.2.1 h11 hG hts.2 fun te H12 ke n12 e12 h12 hE => ?_
  walk_at "go"
  have e1012 := e11.trans e12
  have hx12 := e1012.get0 h10
  refine s_setF hx12 F.cl F.n4 (show (3 : Nat) < 30 by decide) fun H13 e13 h13 => ?_
  have e013 : Ex [x] H H13 := (e010.trans e1012.wide).trans e13
  have ht13 := sqT_ins hx12 e13 (e1012.sqT (by simp) ht10)
  have hw13 := sqT_ins hx12 e13 (e1012.sqT (by simp) hw10)
  have htt13 : H13 tt = some (.dT kt) := e13.get (by simp only [List.mem_singleton]; intro z; rw [z] at htt10; rw [htt10] at h10; cases h10) (e1012.get0 htt10)
  have hte13 : H13 te = some (.dK ke) := e13.get (by simp only [List.mem_singleton]; intro z; rw [z, hx12] at h12; cases h12) h12
  walk_at "go"
  refine lc_fmT (ls := st) ht13 (by have := hst.2.1; omega) (fun a => decide (a ∈ ys)) vS (fun a G C1 C0 ha eg k1 k0 => ?_) (fun D G hD eg hd => ?_)
  · walk_at "go"
    refine s_inT (eg.sqT (by simp) hw13) ?_
    walk_at "go"
    refine s_2 (fun h => ?_) fun h => k0 _ Ex.rfl h
    walk_at "go"
    exact k1 _ Ex.rfl h
  walk_at "go"
  refine s_tupOf (SqL.of hd) fun tm G2 n14 e14 h14 => ?_
  walk_at "go"
  have hx14 := e14.get0 (eg.get0 h13)
  refine s_setF hx14 F.cl F.n5 (show (4 : Nat) < 30 by decide) fun G3 e15 h15 => ?_
  have e1315 := eg.trans e14
  refine k _ ((e013.trans e1315.wide).trans e15) ⟨dx, t, tt, te, tm, kt, ke, h15, sqT_ins hx14 e15 (e1315.sqT (by simp) ht13), ?_, ?_, ?_, ?_, sqT_ins hx14 e15 (SqT.of h14)⟩
  · exact e15.get (by simp only [List.mem_singleton]; intro z; rw [z] at htt13; rw [htt13] at h13; cases h13) (e1315.get0 htt13)
  · intro a ha c hc
    obtain ⟨r, hr, rfl, rfl⟩ := tab_all hrs ha ((sgn_perm s).mem_iff.mp hc)
    obtain ⟨p, z1, z2⟩ := hT10 r hr
    refine ⟨p, z1, ?_⟩
    show SqT K G3 p [vS (tbOf rs r.a r.c).1, .int (tbOf rs r.a r.c).2]
    rw [tb_of hrs.2.1 hr]
    exact sqT_ins hx14 e15 (e1315.sqT (by simp) (sqT_ins hx12 e13 (e1012.sqT (by simp) z2)))
  · exact e15.get (by simp only [List.mem_singleton]; intro z; rw [z] at hte13; rw [hte13] at h13; cases h13) (e1315.get0 hte13)
  · intro a ha
    obtain ⟨p, z1, z2⟩ := hE a ha
    exact ⟨p, z1, sqT_ins hx14 e15 (e1315.sqT (by simp) (sqT_ins hx12 e13 z2))⟩
end
end WB
namespace WB
open PySem PySem.Spec PyProof.Rows L2
/-! ### rounds, plain -/
def stp (M : LM) (z : List Nat × Int) (c : Nat) : List Nat × Int := ((M.tb z.1 c).1, z.2 + (M.tb z.1 c).2)
def run (M : LM) (a : List Nat) (w : List Nat) : List Nat × Int := w.foldl (stp M) (a, 0)
/-! ### promises -/
end WB
namespace WB
open PySem PySem.Spec PyProof.Rows L2
local macro_rules | `(tactic| walk_at "lit") => `(tactic| first | exact lit_abc | exact lit_empty)
local macro_rules | `(tactic| walk_at "nm") => `(tactic| focus first | exact List.not_mem_nil | (simp only [List.mem_singleton]; first | assumption | (exact Ne.symm (by assumption)) | (intro hz; subst hz; simp_all; done)))
local macro_rules | `(tactic| walk_at "hp") => `(tactic| first | assumption | (apply Ex.get0 (by assumption); walk_at "hp") | (apply Ex.get (by assumption); (walk_at "nm"); (walk_at "hp")))
local macro_rules | `(tactic| walk_at "sq") => `(tactic| first | assumption | (apply SqL.of; walk_at "hp") | (apply Ex.sqL (by assumption); (walk_at "nm"); (walk_at "sq")))
local macro_rules | `(tactic| walk_at "sqt") => `(tactic| first | assumption | (apply SqT.of; walk_at "hp") | (apply Ex.sqT (by assumption); (walk_at "nm"); (walk_at "sqt")))
local macro_rules | `(tactic| walk_at "sz") => `(tactic| focus ((with_reducible refine Nat.le_trans (m := 100000) ?_ (by decide)); first | omega | (simp; done) | (simp; omega)))
local macro_rules | `(tactic| walk_at "mul") => `(tactic| first | exact Or.inr ⟨by omega, by omega⟩ | exact Or.inl ⟨by omega, by omega⟩)
local macro_rules | `(tactic| walk_at "pool") => `(tactic| first | assumption | (apply PoolAt.ex (by assumption); (walk_at "nm"); (walk_at "pool")))
local macro_rules | `(tactic| walk_at "ring") => `(tactic| first | assumption | (apply RingAt.ex (by assumption); (walk_at "nm"); (walk_at "ring")))
local macro_rules | `(tactic| walk_at "st") => `(tactic| first
  | with_reducible refine s_seq ?_
  | with_reducible refine s_asg ?_
  | with_reducible refine s_gName ?_
  | with_reducible refine s_ret ?_
  | with_reducible refine s_ifS ?_
  | with_reducible refine s_next ?_
  | with_reducible refine s_op ?_
  | ((with_reducible apply s_var); exact rfl)
  | ((with_reducible apply s_cS); (walk_at "lit"))
  | with_reducible refine s_c ?_
  | with_reducible refine s_cb ?_
  | with_reducible refine s_cons ?_
  | with_reducible refine s_nil ?_
  | with_reducible refine s_un ?_
  | with_reducible refine s_call ?_
  | with_reducible refine s_test ?_
  | with_reducible refine s_tB ?_
  | with_reducible refine s_blQ ?_
  | with_reducible refine s_not ?_
  | with_reducible refine s_and ?_
  | with_reducible refine s_or ?_
  | with_reducible refine s_andV ?_
  | with_reducible refine s_orV ?_
  | with_reducible refine s_notV ?_
  | with_reducible refine s_ifE ?_
  | with_reducible refine s_chain ?_
  | ((with_reducible refine s_T ?_ ?_); (with_reducible exact rfl))
  | with_reducible refine s_nT ?_
  | with_reducible refine s_nF ?_
  | ((with_reducible refine s_F ?_ ?_); (with_reducible exact rfl))
  | ((with_reducible refine s_T ?_ ?_); assumption)
  | ((with_reducible refine s_F ?_ ?_); assumption)
  | ((with_reducible refine s_nB ?_ ?_); assumption)
  | ((with_reducible refine s_nA ?_ ?_); assumption)
  | ((with_reducible refine s_Td ?_ ?_); omega)
  | ((with_reducible refine s_Fd ?_ ?_); omega)
  | ((with_reducible refine s_nTd ?_ ?_); omega)
  | ((with_reducible refine s_nFd ?_ ?_); omega)
  | with_reducible refine s_sfld ?_
  | with_reducible refine s_addI ?_
  | with_reducible refine s_subI ?_
  | ((with_reducible refine s_mulI ?_ ?_); (walk_at "mul"))
  | ((with_reducible refine s_divI ?_ ?_); exact ⟨by omega, by omega⟩)
  | ((with_reducible refine s_modI ?_ ?_); omega)
  | ((with_reducible refine s_powI ?_ ?_); exact ⟨by decide, by decide, by decide⟩)
  | with_reducible refine s_ltI ?_
  | with_reducible refine s_leI ?_
  | with_reducible refine s_gtI ?_
  | with_reducible refine s_geI ?_
  | with_reducible refine s_negI ?_
  | with_reducible refine s_absI ?_
  | with_reducible refine s_intI ?_
  | with_reducible refine s_min2 ?_
  | with_reducible refine s_max2 ?_
  | with_reducible refine s_eqI ?_
  | with_reducible refine s_neI ?_
  | with_reducible refine s_eqS ?_
  | with_reducible refine s_neS ?_
  | with_reducible refine s_inSg ?_
  | with_reducible refine s_notInSg ?_
  | ((with_reducible refine s_addS ?_ ?_); (walk_at "sz"))
  | ((with_reducible refine s_lenS ?_ ?_); (walk_at "sz"))
  | ((with_reducible apply s_lenL); (walk_at "sq"))
  | ((with_reducible apply s_lenT); (walk_at "sqt"))
  | ((with_reducible apply s_ixL); (walk_at "sq"); exact rfl)
  | ((with_reducible apply s_ixT); (walk_at "sqt"); exact rfl)
  | with_reducible refine s_gSub ?_
  | ((with_reducible apply s_setL); (walk_at "hp"); (exact rfl); (intro _ _ _))
  | ((with_reducible refine s_alloc ?_ ?_); (walk_at "sz"); (intro _ _ _ _ _))
  | ((with_reducible refine s_divmod ?_ ?_); (exact ⟨by omega, PyProof.noPylong_small (by omega)⟩); (intro _ _ _ _ _))
  | ((with_reducible apply s_gTup); (walk_at "sqt"); (exact rfl))
  | ((with_reducible apply s_gLst); (walk_at "sq"); (exact rfl))
  | with_reducible refine s_gCons ?_
  | with_reducible refine s_gNil ?_
  | with_reducible refine s_lc ?_
  | ((with_reducible apply s_cat); (walk_at "hp"); (walk_at "hp"); (walk_at "sz"); (intro _ _ _ _ _))
  | ((with_reducible apply s_slL); (walk_at "sq"); (intro _ _ _ _ _))
  | with_reducible refine s_for ?_
  | with_reducible refine s_rng1 ?_
  | ((with_reducible refine s_rng1i ?_ ?_); (constructor <;> omega))
  | with_reducible refine s_rng2 ?_
  | ((with_reducible refine s_rng2i ?_ ?_); (refine ⟨?_, ?_, ?_, ?_⟩ <;> omega))
  | with_reducible refine s_iStr ?_
  | with_reducible refine s_iStrS ?_
  | with_reducible refine s_iList ?_
  | ((with_reducible apply s_iListA); (walk_at "sq"))
  | with_reducible refine s_iTup ?_
  | ((with_reducible apply s_iTupA); (walk_at "sqt"))
  | with_reducible refine s_sl ?_
  | with_reducible refine s_noPart ?_
  | with_reducible refine s_part ?_
  | with_reducible refine s_int1 ?_
  | ((with_reducible refine s_slS ?_ ?_); (walk_at "sz"))
  | with_reducible refine s_tup ?_
  | with_reducible refine s_lst ?_
  | with_reducible refine s_par ?_
  | with_reducible refine s_pair ?_
  | with_reducible refine s_M1 ?_
  | with_reducible refine s_isStr ?_
  | with_reducible refine s_revS ?_
  | ((with_reducible refine s_revS1 ?_ ?_); (walk_at "sz"))
  | with_reducible refine s_fldE ?_
  | with_reducible refine s_propE ?_
  | ((with_reducible refine u_draw ?_ ?_ ?_ ?_); omega; omega; (walk_at "pool"); (intro _ _ _ _ _ _))
  | ((with_reducible refine u_pool ?_); (intro _ _ _ _ _))
  | with_reducible refine u_is_integer ?_
  | with_reducible refine s_isiII ?_
  | with_reducible refine s_isiIB ?_
  | with_reducible refine s_isiSS ?_
  | ((with_reducible apply u_fldRing); assumption; (walk_at "ring"))
  | ((with_reducible apply u_textP); (walk_at "ring"))
  | ((with_reducible apply u_strRing); (walk_at "ring"))
  | ((with_reducible apply u_eqRing); (walk_at "ring"); (walk_at "ring"))
  | ((with_reducible apply u_isiRing); assumption; (walk_at "ring"))
  | ((with_reducible refine u_is_word ?_ ?_); omega; (intro _ _))
  | ((with_reducible refine u_turnings ?_ ?_); omega; (intro _ _ _ _ _))
  | with_reducible refine s_makeE ?_
  | with_reducible refine s_methE ?_)
local macro_rules | `(tactic| walk_at "go") => `(tactic| repeat (walk_at "st"))
local macro_rules | `(tactic| walk_at "exs") => `(tactic| first | exact Ex.rfl | assumption | (apply Ex.snoc (by assumption); walk_at "exs") | (apply Ex.snocW (by assumption); walk_at "exs"))
local macro_rules | `(tactic| walk_at "kind") => `(tactic| first | assumption | (apply KindAt.ex0 (by assumption); (walk_at "kind")) | (apply KindAt.exP (by assumption) (by assumption); (walk_at "kind")))
local macro_rules | `(tactic| walk_at "st") => `(tactic| first
  | with_reducible refine s_lenSet ?_
  | with_reducible refine s_drop ?_
  | with_reducible refine s_bm ?_
  | with_reducible refine s_notN ?_
  | with_reducible refine s_isN ?_
  | ((with_reducible apply s_tyL); (walk_at "hp"))
  | with_reducible refine s_enumT ?_
  | ((with_reducible apply s_enumTA); (walk_at "sqt"))
  | with_reducible refine s_lc2 ?_)
local macro_rules | `(tactic| walk_at "lit") => `(tactic| exact lit_MRK)
local macro_rules | `(tactic| walk_at "st") => `(tactic| first
  | with_reducible refine s_dcT ?_
  | with_reducible refine s_dc ?_)
section
variable {K : PySem.W.Frag} {vs : List V} {H H' : Hp} {Q : VK} {E : XK} {x : Addr} {M : LM}
theorem u_fLetters (F : LoopK K) (h : LoopAt K H x M) (k : Q (vS M.ab) H) : FldG K "letters" (.ref x) H Q := by
  obtain ⟨dx, o, tt, te, tm, kt, ke, h1, _⟩ := h
  exact ⟨x, _, dx, _, _, rfl, h1, F.cl, F.n1, rfl, k⟩
theorem u_fOrder (F : LoopK K) (h : LoopAt K H x M) (k : ∀ o, SqT K H o (M.st.map vS) → Q (.ref o) H) : FldG K "order" (.ref x) H Q := by
  obtain ⟨dx, o, tt, te, tm, kt, ke, h1, h2, _⟩ := h
  exact ⟨x, _, dx, _, _, rfl, h1, F.cl, F.n2, rfl, k o h2⟩
theorem u_fTable (F : LoopK K) (h : LoopAt K H x M) (k : ∀ tt kt, H tt = some (.dT kt) → TabOk K H kt M → Q (.ref tt) H) : FldG K "table" (.ref x) H Q := by
  obtain ⟨dx, o, tt, te, tm, kt, ke, h1, h2, h3, h4, _⟩ := h
  exact ⟨x, _, dx, _, _, rfl, h1, F.cl, F.n3, rfl, k tt kt h3 h4⟩
theorem u_fEnding (F : LoopK K) (h : LoopAt K H x M) (k : ∀ te ke, H te = some (.dK ke) → EndOk K H ke M → Q (.ref te) H) : FldG K "ending" (.ref x) H Q := by
  obtain ⟨dx, o, tt, te, tm, kt, ke, h1, h2, h3, h4, h5, h6, _⟩ := h
  exact ⟨x, _, dx, _, _, rfl, h1, F.cl, F.n4, rfl, k te ke h5 h6⟩
theorem u_fMarked (F : LoopK K) (h : LoopAt K H x M) (k : ∀ tm, SqT K H tm (M.ok.map vS) → Q (.ref tm) H) : FldG K "marked" (.ref x) H Q := by
  obtain ⟨dx, o, tt, te, tm, kt, ke, h1, h2, h3, h4, h5, h6, h7⟩ := h
  exact ⟨x, _, dx, _, _, rfl, h1, F.cl, F.n5, rfl, k tm h7⟩
theorem s_dget {td ty : TE} {σ : St} (k : td σ H fun x H1 => ty σ H1 fun y H2 => ∃ a v, x = .ref a ∧ DGet H2 a y (some v) ∧ Q v H2) : tDGet td ty σ H Q := k
theorem s_getT {C : V → Prop} {tt q : Addr} {kt : List (List Key × V)} {a : List Nat} {c : Nat} (h1 : H tt = some (.dT kt)) (h2 : TabOk K H kt M) (ha : a ∈ M.st) (hc : c ∈ M.ab) (hq : H q = some (.tup [vS a, vS [c]])) (k : ∀ p, SqT K H p [vS (M.tb a c).1, .int (M.tb a c).2] → C (.ref p)) : ∃ b v, V.ref tt = .ref b ∧ DGet H b (.ref q) (some v) ∧ C v := by
  obtain ⟨p, z1, z2⟩ := h2 a ha c hc
  exact ⟨tt, .ref p, rfl, by rw [← z1]; exact DGet.t h1 (k := [kS a, kS [c]]) hq, k p z2⟩
theorem s_getE {C : V → Prop} {te : Addr} {ke : List (Key × V)} {a : List Nat} (h1 : H te = some (.dK ke)) (h2 : EndOk K H ke M) (ha : a ∈ M.st) (k : ∀ p, SqT K H p [vS (M.en a).1, .int (M.en a).2] → C (.ref p)) : ∃ b v, V.ref te = .ref b ∧ DGet H b (vS a) (some v) ∧ C v := by
  obtain ⟨p, z1, z2⟩ := h2 a ha
  exact ⟨te, .ref p, rfl, by rw [← z1]; exact DGet.k h1 (k := kS a), k p z2⟩
end
end WB
namespace WB
open PySem PySem.Spec PyProof.Rows L2
/-- amounts of not too many bits -/
def BndM (M : LM) : Prop := (∀ a ∈ M.st, ∀ c ∈ M.ab, (M.tb a c).2.natAbs ≤ 2 ^ 200) ∧ ∀ a ∈ M.st, (M.en a).2.natAbs ≤ 2 ^ 200
/-! ### promises -/
end WB
namespace WB
open PySem PySem.Spec PyProof.Rows L2
/-- values that are tuples -/
def Tups (K : PySem.W.Frag) (H : Hp) (xs : List V) (ls : List (List V)) : Prop := xs.length = ls.length ∧ ∀ (i : Nat) x l, xs[i]? = some x → ls[i]? = some l → ∃ p, x = .ref p ∧ SqT K H p l
section
variable {K : PySem.W.Frag} {H H' : Hp} {Q : VK} {E : XK} {t a x : Addr} {M : LM} {xs : List V} {ls : List (List V)}
theorem TupsAt.mk (h : SqT K H t xs) (h2 : Tups K H xs ls) : TupsAt K H t ls := ⟨xs, h, h2.1, h2.2⟩
theorem Tups.ex0 (e : Ex [] H H') (h : Tups K H xs ls) : Tups K H' xs ls := ⟨h.1, fun i x l h1 h2 => by
  obtain ⟨p, h3, h4⟩ := h.2 i x l h1 h2
  exact ⟨p, h3, e.sqT (by simp) h4⟩⟩
theorem Tups.nil : Tups K H [] [] := ⟨rfl, by simp⟩
theorem Tups.snoc {p : Addr} {l : List V} (h : Tups K H xs ls) (hp : SqT K H p l) : Tups K H (xs ++ [.ref p]) (ls ++ [l]) := by
  refine ⟨by simp [h.1], fun i x m h1 h2 => ?_⟩
  by_cases hi : i < xs.length
  · rw [List.getElem?_append_left hi] at h1
    rw [List.getElem?_append_left (by rw [← h.1]; exact hi)] at h2
    exact h.2 i x m h1 h2
  · rw [List.getElem?_append_right (by omega)] at h1
    rw [List.getElem?_append_right (by rw [← h.1]; omega)] at h2
    have : i = xs.length := by
      have := (List.getElem?_eq_some_iff.mp h1).1
      simp at this
      omega
    subst this
    rw [Nat.sub_self] at h1
    rw [h.1, Nat.sub_self] at h2
    simp at h1 h2
    subst h1 h2
    exact ⟨p, rfl, hp⟩
theorem Tups.app {ys : List V} {ms : List (List V)} (h : Tups K H xs ls) (h' : Tups K H ys ms) : Tups K H (xs ++ ys) (ls ++ ms) := by
  refine ⟨by simp [h.1, h'.1], fun i x m h1 h2 => ?_⟩
  by_cases hi : i < xs.length
  · rw [List.getElem?_append_left hi] at h1
    rw [List.getElem?_append_left (by rw [← h.1]; exact hi)] at h2
    exact h.2 i x m h1 h2
  · rw [List.getElem?_append_right (by omega)] at h1
    rw [List.getElem?_append_right (by rw [← h.1]; omega), ← h.1] at h2
    exact h'.2 _ x m h1 h2
theorem sqT_upd {D : Addr} {o ys : List V} (hd : H D = none ∨ ∃ l, H D = some (.lst l)) (h : SqT K H t ys) : SqT K (upd H D (.lst o)) t ys := by
  rcases hd with hd | ⟨l, hd⟩
  · exact (Ex.new (m := []) hd).sqT (by simp) h
  · exact sqT_lst hd (Ex.put (by simp)) h
theorem Tups.upd {D : Addr} {o : List V} (hd : H D = none ∨ ∃ l, H D = some (.lst l)) (h : Tups K H xs ls) : Tups K (L2.upd H D (.lst o)) xs ls := ⟨h.1, fun i x l h1 h2 => by
  obtain ⟨p, h3, h4⟩ := h.2 i x l h1 h2
  exact ⟨p, h3, sqT_upd hd h4⟩⟩
theorem lc_tups {α : Type} {J : It} {G : Hp → Prop} {Y : Nat → Hp → V → Hp → Prop} {j n : Nat} {te : TE} {σ : St} {l : List α} (w : Walk J n G Y) (hl : l.length = n) (hn : n ≤ 100000) (vl : α → V) (f : α → List V) (hY : ∀ i H1 x H2, i < n → Y i H1 x H2 → H2 = H1 ∧ ∃ a, l[i]? = some a ∧ x = vl a) (hG : ∀ H1, Ex [] H H1 → G H1)
    (h : ∀ a H1 (C : VK), a ∈ l → Ex [] H H1 → (∀ p H2, Ex [] H1 H2 → SqT K H2 p (f a) → C (.ref p) H2) → te ((wipe σ [j]).set j (some (vl a))) H1 C)
    (k : ∀ D H' xs, H D = none → Ex [] H H' → H' D = some (.lst xs) → Tups K H' xs (l.map f) → Q (.ref D) H') : LcW J (gName j) tYes te [j] σ H Q := by
  refine lc_run w hn [] (fun _ => True) (fun i acc H1 => Tups K H1 acc ((l.take i).map f)) (by simp) trivial (by simpa using Tups.nil) (fun _ _ _ _ _ => trivial) (fun _ _ _ _ _ hd h => h.upd hd) hG ?_ ?_
  · intro i acc x H1 H2 C1 C0 hi e _ ha hy k1 k0
    obtain ⟨rfl, a, hx, rfl⟩ := hY i H1 x H2 hi hy
    refine ⟨wipe1 _ _ _, s_yes (s_T rfl ?_)⟩
    refine h a _ C1 (List.mem_of_getElem? hx) e fun p H5 e5 hp => k1 _ H5 e5 trivial ?_
    rw [List.take_add_one, hx, List.map_append]
    exact (ha.ex0 e5).snoc hp
  · intro D H' ys hD e _ hd _ ha
    rw [← hl, List.take_length] at ha
    exact k D H' ys hD e hd ha
theorem lc_tupsT {b : Addr} {l : List (List Nat)} {j : Nat} {te : TE} {σ : St} (hq : SqT K H b (l.map vS)) (hn : l.length ≤ 100000) (f : List Nat → List V)
    (h : ∀ a H1 (C : VK), a ∈ l → Ex [] H H1 → (∀ p H2, Ex [] H1 H2 → SqT K H2 p (f a) → C (.ref p) H2) → te ((wipe σ [j]).set j (some (vS a))) H1 C)
    (k : ∀ D H' xs, H D = none → Ex [] H H' → H' D = some (.lst xs) → Tups K H' xs (l.map f) → Q (.ref D) H') : LcW (Itt K b) (gName j) tYes te [j] σ H Q :=
  lc_tups (l := l) (walk_tup (xs := l.map vS)) (by simp) (by simpa using hn) vS f (fun i H1 x H2 hi hy => ⟨hy.1, by
    have h2 := hy.2
    rw [List.getElem?_map] at h2
    obtain ⟨a, h3, h4⟩ := Option.map_eq_some_iff.mp h2
    exact ⟨a, h3, h4.symm⟩⟩) (fun H1 e => e.sqT (by simp) hq) h k
theorem lc_tupsL {b : Addr} {l : List (List Nat)} {j : Nat} {te : TE} {σ : St} (hq : SqL K H b (l.map vS)) (hn : l.length ≤ 100000) (f : List Nat → List V)
    (h : ∀ a H1 (C : VK), a ∈ l → Ex [] H H1 → (∀ p H2, Ex [] H1 H2 → SqT K H2 p (f a) → C (.ref p) H2) → te ((wipe σ [j]).set j (some (vS a))) H1 C)
    (k : ∀ D H' xs, H D = none → Ex [] H H' → H' D = some (.lst xs) → Tups K H' xs (l.map f) → Q (.ref D) H') : LcW (Itl K b) (gName j) tYes te [j] σ H Q :=
  lc_tups (l := l) (walk_list (xs := l.map vS)) (by simp) (by simpa using hn) vS f (fun i H1 x H2 hi hy => ⟨hy.1, by
    have h2 := hy.2
    rw [List.getElem?_map] at h2
    obtain ⟨a, h3, h4⟩ := Option.map_eq_some_iff.mp h2
    exact ⟨a, h3, h4.symm⟩⟩) (fun H1 e => e.sqL (by simp) hq) h k
theorem lc_tupsS {l : List Nat} {j : Nat} {te : TE} {σ : St} (hn : l.length ≤ 100000) (f : Nat → List V)
    (h : ∀ c H1 (C : VK), c ∈ l → Ex [] H H1 → (∀ p H2, Ex [] H1 H2 → SqT K H2 p (f c) → C (.ref p) H2) → te ((wipe σ [j]).set j (some (vS [c]))) H1 C)
    (k : ∀ D H' xs, H D = none → Ex [] H H' → H' D = some (.lst xs) → Tups K H' xs (l.map f) → Q (.ref D) H') : LcW (Its (S l)) (gName j) tYes te [j] σ H Q :=
  lc_tups (l := l) (walk_str (z := S l)) (by simp [S]) (by simpa [S] using hn) (fun c => vS [c]) f (fun i H1 x H2 hi hy => ⟨hy.1, by
    obtain ⟨c, h2, h3⟩ := hy.2
    exact ⟨c, by simpa [S] using h2, h3⟩⟩) (fun _ _ => trivial) h k
theorem lc2_tups {o : Addr} {l : List (List Nat)} {m : List Nat} {j1 j2 : Nat} {wi : TI} {te : TE} {σ : St} (ne : j1 ≠ j2) (ho : SqT K H o (l.map vS)) (hl : l.length ≤ 600) (hm : m.length ≤ 600) (f : List Nat → Nat → List V)
    (hw : ∀ a H1 (R : It → Hp → Prop), Ex [] H H1 → R (Its (S m)) H1 → wi ((wipe σ [j1, j2]).set j1 (some (vS a))) H1 R)
    (h : ∀ a c H1 (C : VK), a ∈ l → c ∈ m → Ex [] H H1 → (∀ p H2, Ex [] H1 H2 → SqT K H2 p (f a c) → C (.ref p) H2) → te ((wipe ((wipe σ [j1, j2]).set j1 (some (vS a))) [j2]).set j2 (some (vS [c]))) H1 C)
    (q : ∀ D H' xs, H D = none → Ex [] H H' → H' D = some (.lst xs) → Tups K H' xs (l.flatMap fun a => m.map (f a)) → Q (.ref D) H') : Lc2W (Itt K o) (gName j1) tYes wi (gName j2) tYes te [j1, j2] [j2] σ H Q := by
  intro D hD
  have hs : ∀ z : List Nat, (S z).cps.size = z.length := fun z => by simp [S]
  have w1 := walk_tup (K := K) (a := o) (xs := l.map vS)
  rw [List.length_map] at w1
  have w2 := walk_str (z := S m)
  rw [hs] at w2
  have hso : ∀ {H1 : Hp}, Ex [] H H1 → SqT K H1 o (l.map vS) := fun e => e.sqT (by simp) ho
  have len : ∀ i, ((l.take i).flatMap fun a => m.map (f a)).length ≤ 360000 := fun i => by
    have : ∀ l : List (List Nat), (l.flatMap fun a => m.map (f a)).length = l.length * m.length := by
      intro l
      induction l with
      | nil => simp
      | cons a l ih => rw [List.flatMap_cons, List.length_append, ih, List.length_map, List.length_cons, Nat.succ_mul, Nat.add_comm]
    rw [this]
    exact Nat.mul_le_mul (Nat.le_trans (by rw [List.length_take]; omega) hl) hm
  refine ⟨fun i r H' => r = l.length - i ∧ i ≤ l.length ∧ Ex [] H H' ∧ ∃ xs, H' D = some (.lst xs) ∧ Tups K H' xs ((l.take i).flatMap fun a => m.map (f a)), ⟨_, rfl, Nat.zero_le _, Ex.new hD, [], upd_same, by simpa using Tups.nil⟩, ?_⟩
  rintro i r H1 ⟨rfl, hi, e1, xs, h1, t1⟩
  by_cases hlt : i < l.length
  rotate_left
  · have : i = l.length := by omega
    subst this
    rw [List.take_length] at t1
    exact .inl ⟨w1.stops _ (hso e1), q D H1 xs hD e1 h1 t1⟩
  refine .inr ⟨w1.goes _ _ hlt (hso e1), fun H' => Ex [] H H' ∧ ∃ xs, H' D = some (.lst xs) ∧ Tups K H' xs ((l.take (i + 1)).flatMap fun a => m.map (f a)), fun H' hn => ⟨_, by omega, rfl, by omega, hn.1, hn.2⟩, fun x H2 hy => ?_⟩
  obtain ⟨rfl, hx⟩ := w1.yields _ _ _ _ hlt (hso e1) hy
  rw [List.getElem?_map] at hx
  obtain ⟨a, ha, rfl⟩ := Option.map_eq_some_iff.mp hx
  have htk : ((l.take (i + 1)).flatMap fun a => m.map (f a)) = ((l.take i).flatMap fun a => m.map (f a)) ++ m.map (f a) := by
    rw [List.take_add_one, ha, List.flatMap_append]
    simp
  refine ⟨?_, ?_⟩
  · show (((((σ.set j2 none).set j1 none).set j1 (some (vS a))).set j2 none).set j1 none) = (σ.set j2 none).set j1 none
    rw [List.set_set, List.set_comm (l := σ.set j2 none) _ _ ne, List.set_set, List.set_set]
  refine s_yes (s_T rfl ?_)
  refine hw a _ _ e1 ?_
  refine ⟨fun j r H' => r = m.length - j ∧ j ≤ m.length ∧ Ex [] H H' ∧ ∃ xs, H' D = some (.lst xs) ∧ Tups K H' xs (((l.take i).flatMap fun a => m.map (f a)) ++ (m.take j).map (f a)), ⟨_, rfl, Nat.zero_le _, e1, xs, h1, by simpa using t1⟩, ?_⟩
  rintro j r H3 ⟨rfl, hj, e3, ys, h3, t3⟩
  by_cases hlt2 : j < m.length
  rotate_left
  · have : j = m.length := by omega
    subst this
    rw [List.take_length, ← htk] at t3
    exact .inl ⟨w2.stops _ trivial, e3, ys, h3, t3⟩
  refine .inr ⟨w2.goes _ _ hlt2 trivial, fun H' => Ex [] H H' ∧ ∃ xs, H' D = some (.lst xs) ∧ Tups K H' xs (((l.take i).flatMap fun a => m.map (f a)) ++ (m.take (j + 1)).map (f a)), fun H' hn => ⟨_, by omega, rfl, by omega, hn.1, hn.2⟩, fun x H4 hy => ?_⟩
  obtain ⟨rfl, d, hd, rfl⟩ := w2.yields _ _ _ _ hlt2 trivial hy
  have hd : m[j]? = some d := by simpa [S] using hd
  refine ⟨wipe1 _ _ _, s_yes (s_T rfl ?_)⟩
  refine h a d _ _ (List.mem_of_getElem? ha) (List.mem_of_getElem? hd) e3 fun p H5 e5 hp => ⟨ys, e5 D _ (by simp) h3, ?_, ?_, ys ++ [.ref p], upd_same, ?_⟩
  · have := t3.1
    rw [this, List.length_append, List.length_map, List.length_take]
    have := len i
    exact Nat.lt_of_le_of_lt (show _ ≤ 361000 by omega) (by decide)
  · intro b o _ hb
    rw [upd_ne (ne_of_none hb hD)]
    exact e5 b o (by simp) (e3 b o (by simp) hb)
  · refine Tups.upd (.inr ⟨ys, e5 D _ (by simp) h3⟩) ?_
    rw [List.take_add_one, hd, List.map_append, ← List.append_assoc]
    exact (t3.ex0 e5).snoc hp
theorem s_catA {b : Addr} {ys : List V} (h1 : SqT K H a xs) (h2 : SqT K H b ys) (hl : xs.length + ys.length ≤ 1000) (hx : xs ≠ []) (hy : ys ≠ []) (k : ∀ p H2, H p = none → Ex [] H H2 → H2 p = some (.tup (xs ++ ys)) → Q (.ref p) H2) : rCatA K (.ref a) (.ref b) H Q :=
  ⟨a, b, xs, ys, rfl, rfl, h1, h2, Nat.le_trans hl (by decide), fun e => absurd e hx, fun _ e => absurd e hy, fun _ _ => s_new k⟩
/-! ### rows, turns, row -/
def rwsOf (M : LM) : List Rw := M.st.flatMap fun a => M.ab.map fun c => ⟨a, c, (M.tb a c).1, (M.tb a c).2⟩
def tnsOf (M : LM) : List Tn := M.st.map fun a => ⟨a, (M.en a).1, (M.en a).2⟩
def LRowAt (K : PySem.W.Frag) (H : Hp) (p : Addr) (M : LM) : Prop := ∃ o r t y, SqT K H p [vS M.ab, .ref o, .ref r, .ref t, .ref y] ∧ SqT K H o (M.st.map vS) ∧ TupsAt K H r ((rwsOf M).map rwV) ∧ TupsAt K H t ((tnsOf M).map tnV) ∧ SqT K H y (M.ok.map vS)
theorem LRowAt.ex0 {p : Addr} (e : Ex [] H H') (h : LRowAt K H p M) : LRowAt K H' p M := by
  obtain ⟨o, r, t, y, h1, h2, h3, h4, h5⟩ := h
  exact ⟨o, r, t, y, e.sqT (by simp) h1, e.sqT (by simp) h2, h3.ex0 e, h4.ex0 e, e.sqT (by simp) h5⟩
def sp_Loop_rows (K : PySem.W.Frag) : Sp := fun vs H Q _ => ∃ x : Addr, vs = [.ref x] ∧ ∃ M : LM, LoopAt K H x M ∧ GoodM M ∧ ∀ p H', Ex [] H H' → TupsAt K H' p ((rwsOf M).map rwV) → Q (.ref p) H'
def sp_Loop_turns (K : PySem.W.Frag) : Sp := fun vs H Q _ => ∃ x : Addr, vs = [.ref x] ∧ ∃ M : LM, LoopAt K H x M ∧ GoodM M ∧ ∀ p H', Ex [] H H' → TupsAt K H' p ((tnsOf M).map tnV) → Q (.ref p) H'
def sp_Loop_row (K : PySem.W.Frag) : Sp := fun vs H Q _ => ∃ x : Addr, vs = [.ref x] ∧ ∃ M : LM, LoopAt K H x M ∧ GoodM M ∧ ∀ p H', Ex [] H H' → LRowAt K H' p M → Q (.ref p) H'
end
end WB
namespace WB
open PySem PySem.Spec PyProof.Rows L2
local macro_rules | `(tactic| walk_at "lit") => `(tactic| first | exact lit_abc | exact lit_empty)
local macro_rules | `(tactic| walk_at "nm") => `(tactic| focus first | exact List.not_mem_nil | (simp only [List.mem_singleton]; first | assumption | (exact Ne.symm (by assumption)) | (intro hz; subst hz; simp_all; done)))
local macro_rules | `(tactic| walk_at "hp") => `(tactic| first | assumption | (apply Ex.get0 (by assumption); walk_at "hp") | (apply Ex.get (by assumption); (walk_at "nm"); (walk_at "hp")))
local macro_rules | `(tactic| walk_at "sq") => `(tactic| first | assumption | (apply SqL.of; walk_at "hp") | (apply Ex.sqL (by assumption); (walk_at "nm"); (walk_at "sq")))
local macro_rules | `(tactic| walk_at "sqt") => `(tactic| first | assumption | (apply SqT.of; walk_at "hp") | (apply Ex.sqT (by assumption); (walk_at "nm"); (walk_at "sqt")))
local macro_rules | `(tactic| walk_at "sz") => `(tactic| focus ((with_reducible refine Nat.le_trans (m := 100000) ?_ (by decide)); first | omega | (simp; done) | (simp; omega)))
local macro_rules | `(tactic| walk_at "mul") => `(tactic| first | exact Or.inr ⟨by omega, by omega⟩ | exact Or.inl ⟨by omega, by omega⟩)
local macro_rules | `(tactic| walk_at "pool") => `(tactic| first | assumption | (apply PoolAt.ex (by assumption); (walk_at "nm"); (walk_at "pool")))
local macro_rules | `(tactic| walk_at "ring") => `(tactic| first | assumption | (apply RingAt.ex (by assumption); (walk_at "nm"); (walk_at "ring")))
local macro_rules | `(tactic| walk_at "st") => `(tactic| first
  | with_reducible refine s_seq ?_
  | with_reducible refine s_asg ?_
  | with_reducible refine s_gName ?_
  | with_reducible refine s_ret ?_
  | with_reducible refine s_ifS ?_
  | with_reducible refine s_next ?_
  | with_reducible refine s_op ?_
  | ((with_reducible apply s_var); exact rfl)
  | ((with_reducible apply s_cS); (walk_at "lit"))
  | with_reducible refine s_c ?_
  | with_reducible refine s_cb ?_
  | with_reducible refine s_cons ?_
  | with_reducible refine s_nil ?_
  | with_reducible refine s_un ?_
  | with_reducible refine s_call ?_
  | with_reducible refine s_test ?_
  | with_reducible refine s_tB ?_
  | with_reducible refine s_blQ ?_
  | with_reducible refine s_not ?_
  | with_reducible refine s_and ?_
  | with_reducible refine s_or ?_
  | with_reducible refine s_andV ?_
  | with_reducible refine s_orV ?_
  | with_reducible refine s_notV ?_
  | with_reducible refine s_ifE ?_
  | with_reducible refine s_chain ?_
  | ((with_reducible refine s_T ?_ ?_); (with_reducible exact rfl))
  | with_reducible refine s_nT ?_
  | with_reducible refine s_nF ?_
  | ((with_reducible refine s_F ?_ ?_); (with_reducible exact rfl))
  | ((with_reducible refine s_T ?_ ?_); assumption)
  | ((with_reducible refine s_F ?_ ?_); assumption)
  | ((with_reducible refine s_nB ?_ ?_); assumption)
  | ((with_reducible refine s_nA ?_ ?_); assumption)
  | ((with_reducible refine s_Td ?_ ?_); omega)
  | ((with_reducible refine s_Fd ?_ ?_); omega)
  | ((with_reducible refine s_nTd ?_ ?_); omega)
  | ((with_reducible refine s_nFd ?_ ?_); omega)
  | with_reducible refine s_sfld ?_
  | with_reducible refine s_addI ?_
  | with_reducible refine s_subI ?_
  | ((with_reducible refine s_mulI ?_ ?_); (walk_at "mul"))
  | ((with_reducible refine s_divI ?_ ?_); exact ⟨by omega, by omega⟩)
  | ((with_reducible refine s_modI ?_ ?_); omega)
  | ((with_reducible refine s_powI ?_ ?_); exact ⟨by decide, by decide, by decide⟩)
  | with_reducible refine s_ltI ?_
  | with_reducible refine s_leI ?_
  | with_reducible refine s_gtI ?_
  | with_reducible refine s_geI ?_
  | with_reducible refine s_negI ?_
  | with_reducible refine s_absI ?_
  | with_reducible refine s_intI ?_
  | with_reducible refine s_min2 ?_
  | with_reducible refine s_max2 ?_
  | with_reducible refine s_eqI ?_
  | with_reducible refine s_neI ?_
  | with_reducible refine s_eqS ?_
  | with_reducible refine s_neS ?_
  | with_reducible refine s_inSg ?_
  | with_reducible refine s_notInSg ?_
  | ((with_reducible refine s_addS ?_ ?_); (walk_at "sz"))
  | ((with_reducible refine s_lenS ?_ ?_); (walk_at "sz"))
  | ((with_reducible apply s_lenL); (walk_at "sq"))
  | ((with_reducible apply s_lenT); (walk_at "sqt"))
  | ((with_reducible apply s_ixL); (walk_at "sq"); exact rfl)
  | ((with_reducible apply s_ixT); (walk_at "sqt"); exact rfl)
  | with_reducible refine s_gSub ?_
  | ((with_reducible apply s_setL); (walk_at "hp"); (exact rfl); (intro _ _ _))
  | ((with_reducible refine s_alloc ?_ ?_); (walk_at "sz"); (intro _ _ _ _ _))
  | ((with_reducible refine s_divmod ?_ ?_); (exact ⟨by omega, PyProof.noPylong_small (by omega)⟩); (intro _ _ _ _ _))
  | ((with_reducible apply s_gTup); (walk_at "sqt"); (exact rfl))
  | ((with_reducible apply s_gLst); (walk_at "sq"); (exact rfl))
  | with_reducible refine s_gCons ?_
  | with_reducible refine s_gNil ?_
  | with_reducible refine s_lc ?_
  | ((with_reducible apply s_cat); (walk_at "hp"); (walk_at "hp"); (walk_at "sz"); (intro _ _ _ _ _))
  | ((with_reducible apply s_slL); (walk_at "sq"); (intro _ _ _ _ _))
  | with_reducible refine s_for ?_
  | with_reducible refine s_rng1 ?_
  | ((with_reducible refine s_rng1i ?_ ?_); (constructor <;> omega))
  | with_reducible refine s_rng2 ?_
  | ((with_reducible refine s_rng2i ?_ ?_); (refine ⟨?_, ?_, ?_, ?_⟩ <;> omega))
  | with_reducible refine s_iStr ?_
  | with_reducible refine s_iStrS ?_
  | with_reducible refine s_iList ?_
  | ((with_reducible apply s_iListA); (walk_at "sq"))
  | with_reducible refine s_iTup ?_
  | ((with_reducible apply s_iTupA); (walk_at "sqt"))
  | with_reducible refine s_sl ?_
  | with_reducible refine s_noPart ?_
  | with_reducible refine s_part ?_
  | with_reducible refine s_int1 ?_
  | ((with_reducible refine s_slS ?_ ?_); (walk_at "sz"))
  | with_reducible refine s_tup ?_
  | with_reducible refine s_lst ?_
  | with_reducible refine s_par ?_
  | with_reducible refine s_pair ?_
  | with_reducible refine s_M1 ?_
  | with_reducible refine s_isStr ?_
  | with_reducible refine s_revS ?_
  | ((with_reducible refine s_revS1 ?_ ?_); (walk_at "sz"))
  | with_reducible refine s_fldE ?_
  | with_reducible refine s_propE ?_
  | ((with_reducible refine u_draw ?_ ?_ ?_ ?_); omega; omega; (walk_at "pool"); (intro _ _ _ _ _ _))
  | ((with_reducible refine u_pool ?_); (intro _ _ _ _ _))
  | with_reducible refine u_is_integer ?_
  | with_reducible refine s_isiII ?_
  | with_reducible refine s_isiIB ?_
  | with_reducible refine s_isiSS ?_
  | ((with_reducible apply u_fldRing); assumption; (walk_at "ring"))
  | ((with_reducible apply u_textP); (walk_at "ring"))
  | ((with_reducible apply u_strRing); (walk_at "ring"))
  | ((with_reducible apply u_eqRing); (walk_at "ring"); (walk_at "ring"))
  | ((with_reducible apply u_isiRing); assumption; (walk_at "ring"))
  | ((with_reducible refine u_is_word ?_ ?_); omega; (intro _ _))
  | ((with_reducible refine u_turnings ?_ ?_); omega; (intro _ _ _ _ _))
  | with_reducible refine s_makeE ?_
  | with_reducible refine s_methE ?_)
local macro_rules | `(tactic| walk_at "go") => `(tactic| repeat (walk_at "st"))
local macro_rules | `(tactic| walk_at "exs") => `(tactic| first | exact Ex.rfl | assumption | (apply Ex.snoc (by assumption); walk_at "exs") | (apply Ex.snocW (by assumption); walk_at "exs"))
local macro_rules | `(tactic| walk_at "kind") => `(tactic| first | assumption | (apply KindAt.ex0 (by assumption); (walk_at "kind")) | (apply KindAt.exP (by assumption) (by assumption); (walk_at "kind")))
local macro_rules | `(tactic| walk_at "st") => `(tactic| first
  | with_reducible refine s_lenSet ?_
  | with_reducible refine s_drop ?_
  | with_reducible refine s_bm ?_
  | with_reducible refine s_notN ?_
  | with_reducible refine s_isN ?_
  | ((with_reducible apply s_tyL); (walk_at "hp"))
  | with_reducible refine s_enumT ?_
  | ((with_reducible apply s_enumTA); (walk_at "sqt"))
  | with_reducible refine s_lc2 ?_)
local macro_rules | `(tactic| walk_at "lit") => `(tactic| exact lit_MRK)
local macro_rules | `(tactic| walk_at "st") => `(tactic| first
  | with_reducible refine s_dcT ?_
  | with_reducible refine s_dc ?_)
/-- Loop.rows: 0 self 1 state 2 sign -/
def t_Loop_rows (K : PySem.W.Frag) : TS :=
  (tRet (tCB (rTupOf K) (tCons (tLc2 (iTup K (tFld K (tVar 0) "order")) (gName 1) tYes (iStr (tFld K (tVar 0) "letters")) (gName 2) tYes (tOp (rCatA K) (tTup (tCons (tVar 1) (tCons (tVar 2) tNil))) (tDGet (tFld K (tVar 0) "table") (tTup (tCons (tVar 1) (tCons (tVar 2) tNil))))) [1, 2] [2]) tNil)))
/-- Loop.turns: 0 self 1 state -/
def t_Loop_turns (K : PySem.W.Frag) : TS :=
  (tRet (tCB (rTupOf K) (tCons (tLc (iTup K (tFld K (tVar 0) "order")) (gName 1) tYes (tOp (rCatA K) (tTup (tCons (tVar 1) tNil)) (tDGet (tFld K (tVar 0) "ending") (tVar 1))) [1]) tNil)))
/-- Loop.row: 0 self -/
def t_Loop_row (K : PySem.W.Frag) : TS :=
  (tRet (tTup (tCons (tFld K (tVar 0) "letters") (tCons (tFld K (tVar 0) "order") (tCons (tProp (He.ga K "Loop") (sp_Loop_rows K) [] E0 (tVar 0)) (tCons (tProp (He.ga K "Loop") (sp_Loop_turns K) [] E0 (tVar 0)) (tCons (tFld K (tVar 0) "marked") tNil)))))))
section
variable {K : PySem.W.Frag} {vs : List V} {H H' : Hp} {Q : VK} {E : XK} {x : Addr} {M : LM}
theorem cutV_from {xs : List V} {n : Int} (h0 : 0 ≤ n) : cutV xs (some n) none = xs.drop n.toNat := by
  unfold cutV
  have e : HT.sIx xs.length 0 (some n) = min n.toNat xs.length := by
    show (if n < 0 then (n + (xs.length : Int)).toNat else min n.toNat xs.length) = _
    rw [if_neg (by omega)]
  have e2 : HT.sIx xs.length xs.length none = xs.length := rfl
  rw [e, e2]
  rcases Nat.le_total n.toNat xs.length with h | h
  · rw [Nat.min_eq_left h, List.take_of_length_le (by simp)]
  · rw [Nat.min_eq_right h]
    simp [List.drop_eq_nil_of_le h]
theorem pure_Loop_rows (F : LoopK K) (h : sp_Loop_rows K vs H Q E) : t_Loop_rows K (E1 Q) (start ["self", "state", "sign"] vs) H := by
  obtain ⟨x, rfl, M, hx, g, k⟩ := h
  show t_Loop_rows K (E1 Q) [some (.ref x), none, none] H
  unfold t_Loop_rows
  walk_at "go"
  refine u_fOrder F hx fun o ho => ?_
  walk_at "go"
  have hs4 := g.ab.2.1
  have hs6 := g.st.2.1
  refine lc2_tups (m := M.ab) (by decide) ho (by omega) (by omega) (fun a c => rwV ⟨a, c, (M.tb a c).1, (M.tb a c).2⟩) (fun a H1 R e1 hR => ?_) (fun a c H1 C ha hc e1 kc => ?_) fun D H1 xs hD e1 h1 t1 => ?_
  · walk_at "go"
    refine u_fLetters F (hx.ex0 e1) ?_
    walk_at "go"
    exact hR
  · walk_at "go"
    rename_i q H2 nq e2 h2
    refine s_dget ?_
    walk_at "go"
    have hx2 := (hx.ex0 e1).ex0 e2
    refine u_fTable F hx2 fun tt kt h3 h4 => ?_
    walk_at "go"
    rename_i q2 H3 nq2 e3 h5
    refine s_getT (e3.get0 h3) (h4.ex0 e3) ha hc h5 fun p hp => ?_
    refine s_catA (SqT.of (e3.get0 h2)) hp (by simp) (by simp) (by simp) fun z H4 nz e4 h6 => ?_
    exact kc _ _ ((e2.trans e3).trans e4) (SqT.of h6)
  walk_at "go"
  refine s_tupOf (SqL.of h1) fun u H4 hu e4 h6 => ?_
  refine k _ _ (e1.trans e4) (TupsAt.mk (SqT.of h6) ?_)
  have : (rwsOf M).map rwV = M.st.flatMap fun a => M.ab.map fun c => rwV ⟨a, c, (M.tb a c).1, (M.tb a c).2⟩ := by
    unfold rwsOf
    rw [List.map_flatMap]
    congr 1
    funext a
    rw [List.map_map]
    rfl
  rw [this]
  exact t1.ex0 e4
theorem pure_Loop_turns (F : LoopK K) (h : sp_Loop_turns K vs H Q E) : t_Loop_turns K (E1 Q) (start ["self", "state"] vs) H := by
  obtain ⟨x, rfl, M, hx, g, k⟩ := h
  show t_Loop_turns K (E1 Q) [some (.ref x), none] H
  unfold t_Loop_turns
  walk_at "go"
  refine u_fOrder F hx fun o ho => ?_
  walk_at "go"
  have hs6 := g.st.2.1
  refine lc_tupsT ho (by omega) (fun a => tnV ⟨a, (M.en a).1, (M.en a).2⟩) (fun a H1 C ha e1 kc => ?_) fun D H1 xs hD e1 h1 t1 => ?_
  · walk_at "go"
    rename_i q H2 nq e2 h2
    refine s_dget ?_
    walk_at "go"
    refine u_fEnding F ((hx.ex0 e1).ex0 e2) fun te ke h3 h4 => ?_
    walk_at "go"
    refine s_getE h3 h4 ha fun p hp => ?_
    refine s_catA (SqT.of h2) hp (by simp) (by simp) (by simp) fun z H4 nz e4 h6 => ?_
    exact kc _ _ (e2.trans e4) (SqT.of h6)
  walk_at "go"
  refine s_tupOf (SqL.of h1) fun u H4 hu e4 h6 => ?_
  refine k _ _ (e1.trans e4) (TupsAt.mk (SqT.of h6) ?_)
  have : (tnsOf M).map tnV = M.st.map fun a => tnV ⟨a, (M.en a).1, (M.en a).2⟩ := by
    unfold tnsOf
    rw [List.map_map]
    rfl
  rw [this]
  exact t1.ex0 e4
theorem u_propLoop {sp : Sp} {dvs : List V} (h : LoopAt K H x M) (k : sp (.ref x :: dvs) H Q E) : PropG (He.ga K "Loop") sp dvs E (.ref x) H Q := by
  obtain ⟨dx, o, tt, te, tm, kt, ke, h1, _⟩ := h
  exact ⟨x, dx, _, rfl, h1, k⟩
theorem pure_Loop_row (F : LoopK K) (h : sp_Loop_row K vs H Q E) : t_Loop_row K (E1 Q) (start ["self"] vs) H := by
  obtain ⟨x, rfl, M, hx, g, k⟩ := h
  show t_Loop_row K (E1 Q) [some (.ref x)] H
  unfold t_Loop_row
  walk_at "go"
  refine u_fLetters F hx ?_
  walk_at "go"
  refine u_fOrder F hx fun o ho => ?_
  walk_at "go"
  refine u_propLoop hx ?_
  refine ⟨x, rfl, M, hx, g, fun r H1 e1 h1 => ?_⟩
  walk_at "go"
  refine u_propLoop (hx.ex0 e1) ?_
  refine ⟨x, rfl, M, hx.ex0 e1, g, fun t H2 e2 h2 => ?_⟩
  walk_at "go"
  refine u_fMarked F ((hx.ex0 e1).ex0 e2) fun tm htm => ?_
  walk_at "go"
  rename_i z H3 nz e3 h3
  exact k z H3 ((e1.trans e2).trans e3) ⟨o, r, t, tm, SqT.of h3, ((e1.trans e2).trans e3).sqT (by simp) ho, h1.ex0 (e2.trans e3), h2.ex0 e3, e3.sqT (by simp) htm⟩
end
end WB
namespace WB
open PySem PySem.Spec PyProof.Rows L2
theorem lit_z : ("z" : Str) = S [122] := by decide +kernel
theorem s_cutS {t : TS} {n b c : St → Hp → Prop} {rt : VK} {σ : St} {H : Hp} (P : St → Hp → Prop) (h1 : ∀ n' : St → Hp → Prop, (∀ σ G, P σ G → n' σ G) → t ⟨n', rt, b, c⟩ σ H) (h2 : ∀ σ G, P σ G → n σ G) : t ⟨n, rt, b, c⟩ σ H := h1 n h2
theorem Ex.dropN {H H1 H2 : Hp} {p : Addr} {m : List Addr} (hp : H p = none) (a : Ex m H H1) (b : Ex [p] H1 H2) : Ex m H H2 := fun x o hx h => b x o (by simpa using ne_of_none h hp) (a x o hx h)
/-! ### the law's model -/
structure GM (M : LM) : Prop where
  g : GoodM M
  b : BndM M
  f : M.st.filter (fun a => decide (a ∈ M.ok)) = M.ok
def MAt (K : PySem.W.Frag) (H : Hp) (q : Addr) (M : LM) : Prop := ∃ po ss es oo kt ke, H q = some (.lst [vS M.ab, .ref po, .ref ss, .ref es, .ref oo]) ∧ H po = some (.lst (M.st.map vS)) ∧ H ss = some (.dT kt) ∧ TabOk K H kt M ∧ H es = some (.dK ke) ∧ EndOk K H ke M ∧ H oo = some (.lst (M.ok.map vS))
def srtM (M : LM) : LM := { M with ab := sgn M.ab }
section
variable {K : PySem.W.Frag} {H H' : Hp} {Q : VK} {E : XK} {a q x : Addr} {M : LM}
theorem MAt.ex0 (e : Ex [] H H') (h : MAt K H q M) : MAt K H' q M := by
  obtain ⟨po, ss, es, oo, kt, ke, h1, h2, h3, h4, h5, h6, h7⟩ := h
  exact ⟨po, ss, es, oo, kt, ke, e.get0 h1, e.get0 h2, e.get0 h3, h4.ex0 e, e.get0 h5, h6.ex0 e, e.get0 h7⟩
theorem strs_ne {ls : List (List Nat)} {x y z : Int} (h : ls.map vS = [.int x, .int y, .int z]) : False := by
  match ls, h with
  | a :: l, h => cases (List.cons.inj h).1
theorem MAt.exP (hp : PoolAt H a) (e : Ex [a] H H') (h : MAt K H q M) : MAt K H' q M := by
  obtain ⟨po, ss, es, oo, kt, ke, h1, h2, h3, h4, h5, h6, h7⟩ := h
  have hq := hp
  obtain ⟨y1, y2, y3, hq⟩ := hq
  refine ⟨po, ss, es, oo, kt, ke, e.get ?_ h1, e.get ?_ h2, e.get ?_ h3, h4.exP hp e, e.get ?_ h5, h6.exP hp e, e.get ?_ h7⟩
  · simp only [List.mem_singleton]; intro w; rw [w, hq] at h1; cases h1
  · simp only [List.mem_singleton]; intro w; rw [w, hq] at h2; exact strs_ne (HO.lst.inj (Option.some.inj h2)).symm
  · simp only [List.mem_singleton]; intro w; rw [w, hq] at h3; cases h3
  · simp only [List.mem_singleton]; intro w; rw [w, hq] at h5; cases h5
  · simp only [List.mem_singleton]; intro w; rw [w, hq] at h7; exact strs_ne (HO.lst.inj (Option.some.inj h7)).symm
theorem goodS_sgn {s : List Nat} (h : goodS s) : goodS (sgn s) := goodS_perm h (sgn_perm s)
theorem good_srt (g : GoodM M) : GoodM (srtM M) := ⟨goodS_sgn g.ab, g.st, fun a ha c hc => g.tb a ha c ((sgn_perm M.ab).mem_iff.mp hc), g.en, g.ok⟩
/-- only what the table says of its own states and signs counts -/
theorem LoopAt.same {M' : LM} (h1 : M'.ab = M.ab) (h2 : M'.st = M.st) (h3 : ∀ a ∈ M.st, ∀ c ∈ M.ab, M'.tb a c = M.tb a c) (h4 : ∀ a ∈ M.st, M'.en a = M.en a) (h5 : M'.ok = M.ok) (h : LoopAt K H x M) : LoopAt K H x M' := by
  obtain ⟨dx, o, tt, te, tm, kt, ke, z1, z2, z3, z4, z5, z6, z7⟩ := h
  refine ⟨dx, o, tt, te, tm, kt, ke, by rw [h1]; exact z1, by rw [h2]; exact z2, z3, fun a ha c hc => ?_, z5, fun a ha => ?_, by rw [h5]; exact z7⟩
  · rw [h2] at ha
    rw [h1] at hc
    rw [h3 a ha c hc]
    exact z4 a ha c hc
  · rw [h2] at ha
    rw [h4 a ha]
    exact z6 a ha
/-! ### rows of a model -/
theorem pairs_nodup {ab : List Nat} (ha : ab.Nodup) : ∀ {st : List (List Nat)}, st.Nodup → (st.flatMap fun a => ab.map fun c => (a, c)).Nodup
  | [], _ => by simp
  | a :: st, h => by
    obtain ⟨h1, h2⟩ := List.nodup_cons.mp h
    rw [List.flatMap_cons]
    refine List.nodup_append.mpr ⟨?_, pairs_nodup ha h2, ?_⟩
    · exact List.pairwise_map.mpr (ha.imp fun z w => z (Prod.mk.inj w).2)
    · intro p hp q hq e
      obtain ⟨c, _, rfl⟩ := List.mem_map.mp hp
      obtain ⟨b, hb, hq⟩ := List.mem_flatMap.mp hq
      obtain ⟨d, _, rfl⟩ := List.mem_map.mp hq
      cases e
      exact h1 hb
theorem rws_len (M : LM) : ∀ st : List (List Nat), (st.flatMap fun a => M.ab.map fun c => (⟨a, c, (M.tb a c).1, (M.tb a c).2⟩ : Rw)).length = M.ab.length * st.length
  | [] => by simp
  | a :: st => by rw [List.flatMap_cons, List.length_append, rws_len M st, List.length_map, List.length_cons, Nat.mul_succ, Nat.add_comm]
theorem mem_rws {r : Rw} (h : r ∈ rwsOf M) : r.a ∈ M.st ∧ r.c ∈ M.ab ∧ M.tb r.a r.c = (r.b, r.n) := by
  obtain ⟨a, ha, h⟩ := List.mem_flatMap.mp h
  obtain ⟨c, hc, rfl⟩ := List.mem_map.mp h
  exact ⟨ha, hc, rfl⟩
theorem rws_mem {b : List Nat} {c : Nat} (hb : b ∈ M.st) (hc : c ∈ M.ab) : (⟨b, c, (M.tb b c).1, (M.tb b c).2⟩ : Rw) ∈ rwsOf M := List.mem_flatMap.mpr ⟨b, hb, List.mem_map.mpr ⟨c, hc, rfl⟩⟩
theorem good_rws (g : GoodM M) : goodRws M.ab M.st (rwsOf M) := by
  refine ⟨fun r hr => ?_, ?_, rws_len M M.st⟩
  · obtain ⟨h1, h2, h3⟩ := mem_rws hr
    have := g.tb _ h1 _ h2
    rw [h3] at this
    exact ⟨h1, h2, this⟩
  · have := pairs_nodup g.ab.2.2 g.st.2.2.1
    have e : (rwsOf M).map (fun r => (r.a, r.c)) = M.st.flatMap fun a => M.ab.map fun c => (a, c) := by
      unfold rwsOf
      rw [List.map_flatMap]
      congr 1
      funext a
      rw [List.map_map]
      rfl
    rw [e]
    exact this
theorem good_tns (g : GoodM M) : goodTns M.st (tnsOf M) := by
  refine ⟨fun t ht => ?_, ?_⟩
  · obtain ⟨a, ha, rfl⟩ := List.mem_map.mp ht
    exact ⟨ha, g.en a ha⟩
  · unfold tnsOf
    rw [List.map_map]
    have : ((fun t : Tn => t.a) ∘ fun a => (⟨a, (M.en a).1, (M.en a).2⟩ : Tn)) = id := rfl
    rw [this, List.map_id]
    exact g.st.2.2.1
theorem tb_rws (b : List Nat) (hb : b ∈ M.st) (c : Nat) (hc : c ∈ M.ab) : tbOf (rwsOf M) b c = M.tb b c := by
  unfold tbOf
  cases h : (rwsOf M).find? fun r => decide (r.a = b ∧ r.c = c) with
  | none =>
    have := List.find?_eq_none.mp h _ (rws_mem hb hc)
    exact absurd (decide_eq_true ⟨rfl, rfl⟩) this
  | some r =>
    have h0 := List.find?_some h
    have h1 : r.a = b ∧ r.c = c := of_decide_eq_true h0
    have h2 := mem_rws (List.mem_of_find?_eq_some h)
    rw [h1.1, h1.2] at h2
    show (r.b, r.n) = _
    exact h2.2.2.symm
theorem en_tns (b : List Nat) (hb : b ∈ M.st) : enOf (tnsOf M) b = M.en b := by
  unfold enOf
  cases h : (tnsOf M).find? fun t => decide (t.a = b) with
  | none =>
    have := List.find?_eq_none.mp h ⟨b, (M.en b).1, (M.en b).2⟩ (List.mem_map.mpr ⟨b, hb, rfl⟩)
    exact absurd (decide_eq_true rfl) this
  | some t =>
    have h0 := List.find?_some h
    have h1 : t.a = b := of_decide_eq_true h0
    obtain ⟨a, ha, rfl⟩ := List.mem_map.mp (List.mem_of_find?_eq_some h)
    have h1 : a = b := h1
    subst h1
    rfl
/-! ### promises -/
def sp_law_name (K : PySem.W.Frag) : Sp := fun vs H Q _ => ∃ (a f : Addr), vs = [.ref a, .ref f] ∧ ∃ ns : List (List Nat), f ≠ a ∧ H f = some (.lst (ns.map vS)) ∧ (∀ n ∈ ns, isName n) ∧ ns.length ≤ 6 ∧ PoolAt H a ∧ ∀ (n : List Nat) (H' : Hp), isName n → n ∉ ns → Ex [a] H H' → PoolAt H' a → Q (vS n) H'
def sp_law_names (K : PySem.W.Frag) : Sp := fun vs H Q _ => ∃ (a : Addr) (m : Int), vs = [.ref a, .int m] ∧ 1 ≤ m ∧ m ≤ 6 ∧ PoolAt H a ∧ ∀ (st : List (List Nat)) (p : Addr) (H' : Hp), goodSt st → (st.length : Int) = m → H p = none → Ex [a] H H' → PoolAt H' a → H' p = some (.lst (st.map vS)) → Q (.ref p) H'
def sp_law_amount (K : PySem.W.Frag) : Sp := fun vs H Q _ => ∃ (a : Addr) (g : Bool), vs = [.ref a, .bl g] ∧ PoolAt H a ∧ ∀ (r : Int) (H' : Hp), r.natAbs ≤ 2 ^ 200 → Ex [a] H H' → PoolAt H' a → Q (.int r) H'
def sp_law_model (K : PySem.W.Frag) : Sp := fun vs H Q _ => ∃ (a : Addr) (s : List Nat) (m : Int) (g : Bool), vs = [.ref a, vS s, .int m, .bl g] ∧ goodS s ∧ 1 ≤ m ∧ m ≤ 6 ∧ PoolAt H a ∧ ∀ (q : Addr) (M : LM) (H' : Hp), GM M → M.ab = s → (M.st.length : Int) ≤ m → H q = none → Ex [a] H H' → PoolAt H' a → MAt K H' q M → Q (.ref q) H'
theorem u_name {f : Addr} {ns : List (List Nat)} (hne : f ≠ a) (hf : H f = some (.lst (ns.map vS))) (hn : ∀ n ∈ ns, isName n) (hl : ns.length ≤ 6) (hp : PoolAt H a) (k : ∀ (n : List Nat) (H' : Hp), isName n → n ∉ ns → Ex [a] H H' → PoolAt H' a → Q (vS n) H') : sp_law_name K ([.ref a, .ref f] ++ []) H Q E := ⟨a, f, rfl, ns, hne, hf, hn, hl, hp, k⟩
theorem u_names {m : Int} (h1 : 1 ≤ m) (h6 : m ≤ 6) (hp : PoolAt H a) (k : ∀ (st : List (List Nat)) (p : Addr) (H' : Hp), goodSt st → (st.length : Int) = m → H p = none → Ex [a] H H' → PoolAt H' a → H' p = some (.lst (st.map vS)) → Q (.ref p) H') : sp_law_names K ([.ref a, .int m] ++ []) H Q E := ⟨a, m, rfl, h1, h6, hp, k⟩
theorem u_amount {g : Bool} (hp : PoolAt H a) (k : ∀ (r : Int) (H' : Hp), r.natAbs ≤ 2 ^ 200 → Ex [a] H H' → PoolAt H' a → Q (.int r) H') : sp_law_amount K ([.ref a, .bl g] ++ []) H Q E := ⟨a, g, rfl, hp, k⟩
theorem u_model {s : List Nat} {m : Int} {g : Bool} (hs : goodS s) (h1 : 1 ≤ m) (h6 : m ≤ 6) (hp : PoolAt H a) (k : ∀ (q : Addr) (M : LM) (H' : Hp), GM M → M.ab = s → (M.st.length : Int) ≤ m → H q = none → Ex [a] H H' → PoolAt H' a → MAt K H' q M → Q (.ref q) H') : sp_law_model K ([.ref a, vS s, .int m, .bl g] ++ []) H Q E := ⟨a, s, m, g, rfl, hs, h1, h6, hp, k⟩
/-! ### an entry of a table -/
theorem sqT_non {p : Addr} {o : HO} {xs : List V} {t : Addr} (hp : H p = some o) (h1 : ∀ ys, o ≠ .tup ys) (h2 : ∀ b ys, o ≠ .frz b (.tup ys)) (e : Ex [p] H H') (h : SqT K H t xs) : SqT K H' t xs := by
  rcases h with (h | ⟨b, h⟩) | h
  · exact e.sqT (by simp only [List.mem_singleton]; intro w; rw [w, hp] at h; exact h1 _ (Option.some.inj h)) (.inl (.inl h))
  · exact e.sqT (by simp only [List.mem_singleton]; intro w; rw [w, hp] at h; exact h2 _ _ (Option.some.inj h)) (.inl (.inr ⟨b, h⟩))
  · exact .inr h
end
end WB
namespace WB
open PySem PySem.Spec PyProof.Rows L2
theorem lit_122 : ("z" : Str) = S [122] := by decide +kernel
local macro_rules | `(tactic| walk_at "lit") => `(tactic| first | exact lit_122)
local macro_rules | `(tactic| walk_at "lit") => `(tactic| first | exact lit_abc | exact lit_empty)
local macro_rules | `(tactic| walk_at "nm") => `(tactic| focus first | exact List.not_mem_nil | (simp only [List.mem_singleton]; first | assumption | (exact Ne.symm (by assumption)) | (intro hz; subst hz; simp_all; done)))
local macro_rules | `(tactic| walk_at "hp") => `(tactic| first | assumption | (apply Ex.get0 (by assumption); walk_at "hp") | (apply Ex.get (by assumption); (walk_at "nm"); (walk_at "hp")))
local macro_rules | `(tactic| walk_at "sq") => `(tactic| first | assumption | (apply SqL.of; walk_at "hp") | (apply Ex.sqL (by assumption); (walk_at "nm"); (walk_at "sq")))
local macro_rules | `(tactic| walk_at "sqt") => `(tactic| first | assumption | (apply SqT.of; walk_at "hp") | (apply Ex.sqT (by assumption); (walk_at "nm"); (walk_at "sqt")))
local macro_rules | `(tactic| walk_at "sz") => `(tactic| focus ((with_reducible refine Nat.le_trans (m := 100000) ?_ (by decide)); first | omega | (simp; done) | (simp; omega)))
local macro_rules | `(tactic| walk_at "mul") => `(tactic| first | exact Or.inr ⟨by omega, by omega⟩ | exact Or.inl ⟨by omega, by omega⟩)
local macro_rules | `(tactic| walk_at "pool") => `(tactic| first | assumption | (apply PoolAt.ex (by assumption); (walk_at "nm"); (walk_at "pool")))
local macro_rules | `(tactic| walk_at "ring") => `(tactic| first | assumption | (apply RingAt.ex (by assumption); (walk_at "nm"); (walk_at "ring")))
local macro_rules | `(tactic| walk_at "st") => `(tactic| first
  | with_reducible refine s_seq ?_
  | with_reducible refine s_asg ?_
  | with_reducible refine s_gName ?_
  | with_reducible refine s_ret ?_
  | with_reducible refine s_ifS ?_
  | with_reducible refine s_next ?_
  | with_reducible refine s_op ?_
  | ((with_reducible apply s_var); exact rfl)
  | ((with_reducible apply s_cS); (walk_at "lit"))
  | with_reducible refine s_c ?_
  | with_reducible refine s_cb ?_
  | with_reducible refine s_cons ?_
  | with_reducible refine s_nil ?_
  | with_reducible refine s_un ?_
  | with_reducible refine s_call ?_
  | with_reducible refine s_test ?_
  | with_reducible refine s_tB ?_
  | with_reducible refine s_blQ ?_
  | with_reducible refine s_not ?_
  | with_reducible refine s_and ?_
  | with_reducible refine s_or ?_
  | with_reducible refine s_andV ?_
  | with_reducible refine s_orV ?_
  | with_reducible refine s_notV ?_
  | with_reducible refine s_ifE ?_
  | with_reducible refine s_chain ?_
  | ((with_reducible refine s_T ?_ ?_); (with_reducible exact rfl))
  | with_reducible refine s_nT ?_
  | with_reducible refine s_nF ?_
  | ((with_reducible refine s_F ?_ ?_); (with_reducible exact rfl))
  | ((with_reducible refine s_T ?_ ?_); assumption)
  | ((with_reducible refine s_F ?_ ?_); assumption)
  | ((with_reducible refine s_nB ?_ ?_); assumption)
  | ((with_reducible refine s_nA ?_ ?_); assumption)
  | ((with_reducible refine s_Td ?_ ?_); omega)
  | ((with_reducible refine s_Fd ?_ ?_); omega)
  | ((with_reducible refine s_nTd ?_ ?_); omega)
  | ((with_reducible refine s_nFd ?_ ?_); omega)
  | with_reducible refine s_sfld ?_
  | with_reducible refine s_addI ?_
  | with_reducible refine s_subI ?_
  | ((with_reducible refine s_mulI ?_ ?_); (walk_at "mul"))
  | ((with_reducible refine s_divI ?_ ?_); exact ⟨by omega, by omega⟩)
  | ((with_reducible refine s_modI ?_ ?_); omega)
  | ((with_reducible refine s_powI ?_ ?_); exact ⟨by decide, by decide, by decide⟩)
  | with_reducible refine s_ltI ?_
  | with_reducible refine s_leI ?_
  | with_reducible refine s_gtI ?_
  | with_reducible refine s_geI ?_
  | with_reducible refine s_negI ?_
  | with_reducible refine s_absI ?_
  | with_reducible refine s_intI ?_
  | with_reducible refine s_min2 ?_
  | with_reducible refine s_max2 ?_
  | with_reducible refine s_eqI ?_
  | with_reducible refine s_neI ?_
  | with_reducible refine s_eqS ?_
  | with_reducible refine s_neS ?_
  | with_reducible refine s_inSg ?_
  | with_reducible refine s_notInSg ?_
  | ((with_reducible refine s_addS ?_ ?_); (walk_at "sz"))
  | ((with_reducible refine s_lenS ?_ ?_); (walk_at "sz"))
  | ((with_reducible apply s_lenL); (walk_at "sq"))
  | ((with_reducible apply s_lenT); (walk_at "sqt"))
  | ((with_reducible apply s_ixL); (walk_at "sq"); exact rfl)
  | ((with_reducible apply s_ixT); (walk_at "sqt"); exact rfl)
  | with_reducible refine s_gSub ?_
  | ((with_reducible apply s_setL); (walk_at "hp"); (exact rfl); (intro _ _ _))
  | ((with_reducible refine s_alloc ?_ ?_); (walk_at "sz"); (intro _ _ _ _ _))
  | ((with_reducible refine s_divmod ?_ ?_); (exact ⟨by omega, PyProof.noPylong_small (by omega)⟩); (intro _ _ _ _ _))
  | ((with_reducible apply s_gTup); (walk_at "sqt"); (exact rfl))
  | ((with_reducible apply s_gLst); (walk_at "sq"); (exact rfl))
  | with_reducible refine s_gCons ?_
  | with_reducible refine s_gNil ?_
  | with_reducible refine s_lc ?_
  | ((with_reducible apply s_cat); (walk_at "hp"); (walk_at "hp"); (walk_at "sz"); (intro _ _ _ _ _))
  | ((with_reducible apply s_slL); (walk_at "sq"); (intro _ _ _ _ _))
  | with_reducible refine s_for ?_
  | with_reducible refine s_rng1 ?_
  | ((with_reducible refine s_rng1i ?_ ?_); (constructor <;> omega))
  | with_reducible refine s_rng2 ?_
  | ((with_reducible refine s_rng2i ?_ ?_); (refine ⟨?_, ?_, ?_, ?_⟩ <;> omega))
  | with_reducible refine s_iStr ?_
  | with_reducible refine s_iStrS ?_
  | with_reducible refine s_iList ?_
  | ((with_reducible apply s_iListA); (walk_at "sq"))
  | with_reducible refine s_iTup ?_
  | ((with_reducible apply s_iTupA); (walk_at "sqt"))
  | with_reducible refine s_sl ?_
  | with_reducible refine s_noPart ?_
  | with_reducible refine s_part ?_
  | with_reducible refine s_int1 ?_
  | ((with_reducible refine s_slS ?_ ?_); (walk_at "sz"))
  | with_reducible refine s_tup ?_
  | with_reducible refine s_lst ?_
  | with_reducible refine s_par ?_
  | with_reducible refine s_pair ?_
  | with_reducible refine s_M1 ?_
  | with_reducible refine s_isStr ?_
  | with_reducible refine s_revS ?_
  | ((with_reducible refine s_revS1 ?_ ?_); (walk_at "sz"))
  | with_reducible refine s_fldE ?_
  | with_reducible refine s_propE ?_
  | ((with_reducible refine u_draw ?_ ?_ ?_ ?_); omega; omega; (walk_at "pool"); (intro _ _ _ _ _ _))
  | ((with_reducible refine u_pool ?_); (intro _ _ _ _ _))
  | with_reducible refine u_is_integer ?_
  | with_reducible refine s_isiII ?_
  | with_reducible refine s_isiIB ?_
  | with_reducible refine s_isiSS ?_
  | ((with_reducible apply u_fldRing); assumption; (walk_at "ring"))
  | ((with_reducible apply u_textP); (walk_at "ring"))
  | ((with_reducible apply u_strRing); (walk_at "ring"))
  | ((with_reducible apply u_eqRing); (walk_at "ring"); (walk_at "ring"))
  | ((with_reducible apply u_isiRing); assumption; (walk_at "ring"))
  | ((with_reducible refine u_is_word ?_ ?_); omega; (intro _ _))
  | ((with_reducible refine u_turnings ?_ ?_); omega; (intro _ _ _ _ _))
  | with_reducible refine s_makeE ?_
  | with_reducible refine s_methE ?_)
local macro_rules | `(tactic| walk_at "go") => `(tactic| repeat (walk_at "st"))
local macro_rules | `(tactic| walk_at "exs") => `(tactic| first | exact Ex.rfl | assumption | (apply Ex.snoc (by assumption); walk_at "exs") | (apply Ex.snocW (by assumption); walk_at "exs"))
local macro_rules | `(tactic| walk_at "kind") => `(tactic| first | assumption | (apply KindAt.ex0 (by assumption); (walk_at "kind")) | (apply KindAt.exP (by assumption) (by assumption); (walk_at "kind")))
local macro_rules | `(tactic| walk_at "st") => `(tactic| first
  | with_reducible refine s_lenSet ?_
  | with_reducible refine s_drop ?_
  | with_reducible refine s_bm ?_
  | with_reducible refine s_notN ?_
  | with_reducible refine s_isN ?_
  | ((with_reducible apply s_tyL); (walk_at "hp"))
  | with_reducible refine s_enumT ?_
  | ((with_reducible apply s_enumTA); (walk_at "sqt"))
  | with_reducible refine s_lc2 ?_)
local macro_rules | `(tactic| walk_at "lit") => `(tactic| exact lit_MRK)
local macro_rules | `(tactic| walk_at "st") => `(tactic| first
  | with_reducible refine s_dcT ?_
  | with_reducible refine s_dc ?_)
local macro_rules | `(tactic| walk_at "lit") => `(tactic| exact lit_z)
/-- _law_name: 0 _law_pool_here 1 _law_found 2 _law_marks 3 _law_near 4 _law_turn 5 _law_old 6 _law_at 7 _law_spares 8 _law_mate 9 _law_mark -/
def t_law_name (K : PySem.W.Frag) : TS :=
  (tSeq (tAsg (tC (.str "abcdefghijklmnopqrstuvwxyz0123456789")) (gName 2))
  (tSeq (tAsg (tOp rIxS (tVar 2) (tCall (sp_law_draw K) [] E0 (tCons (tVar 0) (tCons (tC (.int 26)) tNil)))) (gName 3))
  (tSeq (tAsg (tOp rAddS (tVar 3) (tM1 (rJoin K) (tC (.str "")) (tLc (iRng1 (tCons (tCall (sp_law_draw K) [] E0 (tCons (tVar 0) (tCons (tC (.int 8)) tNil))) tNil)) (gName 4) tYes (tOp rIxS (tVar 2) (tCall (sp_law_draw K) [] E0 (tCons (tVar 0) (tCons (tC (.int 36)) tNil)))) [4]))) (gName 3))
  (tSeq (tIfS (tAnd (tTest (tOp (rNeD K) (tVar 1) (tLst tNil))) (tTest (tOp rGtI (tCall (sp_law_draw K) [] E0 (tCons (tVar 0) (tCons (tC (.int 3)) tNil))) (tC (.int 0))))) (tSeq (tAsg (tOp (rIxL K) (tVar 1) (tCall (sp_law_draw K) [] E0 (tCons (tVar 0) (tCons (tCB (rLenV K) (tCons (tVar 1) tNil)) tNil)))) (gName 5))
  (tSeq (tAsg (tOp rAddI (tC (.int 1)) (tCall (sp_law_draw K) [] E0 (tCons (tVar 0) (tCons (tCB (rLenV K) (tCons (tVar 5) tNil)) tNil)))) (gName 6))
  (tAsg (tSl rSlS (tOp rAddS (tOp rAddS (tSl rSlS (tVar 5) tNoPart (tPart (tVar 6))) (tOp rIxS (tVar 2) (tCall (sp_law_draw K) [] E0 (tCons (tVar 0) (tCons (tC (.int 36)) tNil))))) (tSl rSlS (tVar 5) (tPart (tOp rAddI (tVar 6) (tCall (sp_law_draw K) [] E0 (tCons (tVar 0) (tCons (tC (.int 2)) tNil))))) tNoPart)) tNoPart (tPart (tC (.int 8)))) (gName 3)))) tNext)
  (tSeq (tAsg (tLc (iList K (tOp rCat (tLst (tCons (tVar 3) tNil)) (tLc (iStr (tSl rSlS (tVar 2) tNoPart (tPart (tC (.int 9))))) (gName 9) tYes (tOp rAddS (tC (.str "z")) (tVar 9)) [9]))) (gName 8) (tTest (tOp (rIn K true) (tVar 8) (tVar 1))) (tVar 8) [8]) (gName 7))
  (tRet (tOp (rIxL K) (tVar 7) (tC (.int 0)))))))))
/-- _law_names: 0 _law_pool_here 1 _law_many 2 _law_found 3 _law_turn -/
def t_law_names (K : PySem.W.Frag) : TS :=
  (tSeq (tAsg (tLst tNil) (gName 2))
  (tSeq (tFor (iRng1 (tCons (tVar 1) tNil)) (gName 3) (tDrop (tBM K "list" rAppend (tVar 2) (tCons (tCall (sp_law_name K) [] E0 (tCons (tVar 0) (tCons (tVar 2) tNil))) tNil))))
  (tRet (tVar 2))))
/-- _law_amount: 0 _law_pool_here 1 _law_great 2 _law_way -/
def t_law_amount (K : PySem.W.Frag) : TS :=
  (tSeq (tAsg (tCall (sp_law_draw K) [] E0 (tCons (tVar 0) (tCons (tC (.int 12)) tNil))) (gName 2))
  (tSeq (tIfS (tTest (tOp rLtI (tVar 2) (tC (.int 9)))) (tRet (tOp rSubI (tCall (sp_law_draw K) [] E0 (tCons (tVar 0) (tCons (tC (.int 7)) tNil))) (tC (.int 3)))) tNext)
  (tSeq (tIfS (tOr (tTest (tOp rLtI (tVar 2) (tC (.int 11)))) (tNot (tB (tVar 1)))) (tRet (tOp rSubI (tCall (sp_law_draw K) [] E0 (tCons (tVar 0) (tCons (tC (.int 2001)) tNil))) (tC (.int 1000)))) tNext)
  (tRet (tOp (rIxL K) (tLst (tCons (tOp rPowI (tC (.int 10)) (tC (.int 20))) (tCons (tOp rSubI (tUn rNegI (tOp rPowI (tC (.int 10)) (tC (.int 20)))) (tC (.int 1))) (tCons (tOp rAddI (tOp rPowI (tC (.int 10)) (tC (.int 30))) (tC (.int 7))) (tCons (tUn rNegI (tOp rPowI (tC (.int 10)) (tC (.int 30)))) tNil))))) (tCall (sp_law_draw K) [] E0 (tCons (tVar 0) (tCons (tC (.int 4)) tNil))))))))
section
variable {K : PySem.W.Frag} {vs : List V} {H H' : Hp} {Q : VK} {E : XK} {x : Addr} {M : LM}
theorem let_in {r : Int} (h0 : 0 ≤ r) (h1 : r < 26) : ∃ c, MRK[r.toNat]? = some c ∧ c ∈ LET := by
  have hl : r.toNat < LET.length := by show r.toNat < 26; omega
  refine ⟨LET[r.toNat], ?_, List.getElem_mem hl⟩
  unfold MRK
  rw [List.getElem?_append_left hl, List.getElem?_eq_getElem hl]
theorem mrk_in {r : Int} (h0 : 0 ≤ r) (h1 : r < 36) : ∃ c, MRK[r.toNat]? = some c ∧ c ∈ MRK := by
  have hl : r.toNat < MRK.length := by show r.toNat < 36; omega
  exact ⟨MRK[r.toNat], List.getElem?_eq_getElem hl, List.getElem_mem hl⟩
theorem let_mrk {c : Nat} (h : c ∈ LET) : c ∈ MRK := List.mem_append_left _ h
theorem flat1' (ls : List Nat) : (ls.map fun c => [c]).flatten = ls := by induction ls with
  | nil => rfl
  | cons a l ih => simp [ih]
theorem pure_law_name (h : sp_law_name K vs H Q E) : t_law_name K (E1 Q) (start ["_law_pool_here", "_law_found", "_law_marks", "_law_near", "_law_turn", "_law_old", "_law_at", "_law_spares", "_law_mate", "_law_mark"] vs) H := by
  obtain ⟨a, f, rfl, ns, hfa, hf, hns, hnl, hp, k⟩ := h
  show t_law_name K (E1 Q) [some (.ref a), some (.ref f), none, none, none, none, none, none, none, none] H
  unfold t_law_name
  walk_at "go"
  rename_i r H1 r0 r1 e1 p1
  obtain ⟨c, hc, hcl⟩ := let_in r0 r1
  refine s_ixS (by decide) (atI_of r0 hc) ?_
  walk_at "go"
  rename_i r2 H2 r20 r21 e2 p2
  refine lc_run walk_range (by omega) [a] (fun H2 => PoolAt H2 a) (fun i acc _ => ∃ ls : List Nat, acc = ls.map (fun c => vS [c]) ∧ ls.length = i ∧ ∀ c ∈ ls, c ∈ MRK) (fun b hb => by rw [List.mem_singleton.mp hb]; exact p2.there) p2 ⟨[], rfl, rfl, by simp⟩
    (fun H2 D o n h => h.upd n) (fun _ _ _ _ _ _ h => h) (fun _ _ => trivial) ?_ ?_
  · rintro i acc x H3 H4 C1 C0 hi e3 p3 ⟨ls, rfl, hls, hin⟩ ⟨rfl, rfl⟩ k1 k0
    refine ⟨wipe1 _ _ _, ?_⟩
    refine s_yes ?_
    walk_at "go"
    rename_i r3 H5 r30 r31 e5 p5
    obtain ⟨d, hd, hdm⟩ := mrk_in r30 r31
    refine s_ixS (by decide) (atI_of r30 hd) ?_
    refine k1 _ _ e5 p5 ⟨ls ++ [d], by rw [List.map_append]; rfl, by rw [List.length_append, hls]; rfl, fun x hx => ?_⟩
    rcases List.mem_append.mp hx with hx | hx
    · exact hin x hx
    · rw [List.mem_singleton.mp hx]; exact hdm
  rintro D H3 ys hD e3 p3 hd hyl ⟨ls, rfl, hls, hin⟩
  have hfl := flat1' ls
  refine s_join0 (ls := ls.map fun c => [c]) (by rw [List.map_map]; exact SqL.of hd) (by rw [hfl]; omega) ?_
  rw [hfl]
  refine s_addS (Nat.le_trans (show _ ≤ 100 by simp; omega) (by decide)) ?_
  refine s_gName ?_
  refine s_seq ?_
  have e03 : Ex [a] H H3 := (e1.trans e2).trans e3
  have hn0 : isName ([c] ++ ls) := ⟨by simp, by simp; omega, ⟨c, ls, rfl, hcl⟩, fun x hx => by
    rcases List.mem_append.mp hx with hx | hx
    · rw [List.mem_singleton.mp hx]; exact let_mrk hcl
    · exact hin x hx⟩
  revert hn0
  generalize [c] ++ ls = n0
  intro hn0
  clear e1 e2 e3 hd hD hyl hls hin hfl hc hcl p1 p2 r0 r1 r20 r21
  refine s_cutS (fun σ G => ∃ n x4 x5 x6, σ = [some (.ref a), some (.ref f), some (vS MRK), some (vS n), x4, x5, x6, none, none, none] ∧ isName n ∧ Ex [a] H G ∧ PoolAt G a) ?_ ?_
  · intro n' kn
    walk_at "go"
    rename_i q H4 nq e4 h4
    have hf4 : H4 f = some (.lst (ns.map vS)) := e4.get0 (e03.get (by simpa using hfa) hf)
    refine s_neLS (ls := ns) (ms := []) (SqL.of hf4) (SqL.of h4) (fun l hl => name_plain (hns l hl)) (by simp) ?_
    walk_at "go"
    have e04 : Ex [a] H H4 := e03.trans e4.wide
    have p4 : PoolAt H4 a := p3.ex e4 (by simp)
    clear e4 nq h4 e03 p3
    by_cases hn : ns = []
    · refine s_F (by simp [hn]) ?_
      walk_at "go"
      exact kn _ _ ⟨n0, _, _, _, rfl, hn0, e04, p4⟩
    refine s_T (by simp [hn]) ?_
    walk_at "go"
    rename_i r5 H5 r50 r51 e5 p5
    by_cases hr5 : 0 < r5
    rotate_left
    · refine s_F (decide_eq_false hr5) ?_
      walk_at "go"
      exact kn _ _ ⟨n0, _, _, _, rfl, hn0, e04.trans e5, p5⟩
    refine s_T (decide_eq_true hr5) ?_
    have hlen : 0 < (ns.map vS).length ∧ (ns.map vS).length ≤ 6 := by rw [List.length_map]; exact ⟨List.length_pos_iff.mpr hn, hnl⟩
    have hf5 : H5 f = some (.lst (ns.map vS)) := e5.get (by simpa using hfa) hf4
    walk_at "go"
    rename_i r6 H6 r60 r61 e6 p6
    rw [List.length_map] at r61
    have hf6 : H6 f = some (.lst (ns.map vS)) := e6.get (by simpa using hfa) hf5
    obtain ⟨old, hold⟩ : ∃ c, ns[r6.toNat]? = some c := ⟨_, List.getElem?_eq_getElem (by omega)⟩
    obtain ⟨o1, o2, ⟨o, os, ho, hoL⟩, o3⟩ := hns old (List.mem_of_getElem? hold)
    refine s_ixL (xs := ns.map vS) (v := vS old) (SqL.of hf6) (atI_of r60 (by rw [List.getElem?_map, hold]; rfl)) ?_
    walk_at "go"
    rename_i r7 H7 r70 r71 e7 p7 r8 H8 r80 r81 e8 p8
    obtain ⟨d, hd, hdm⟩ := mrk_in r80 r81
    refine s_ixS (by decide) (atI_of r80 hd) ?_
    rw [cut_to (by omega)]
    have ht1 : (old.take (1 + r7).toNat).length ≤ 8 := by rw [List.length_take]; omega
    refine s_addS (Nat.le_trans (show _ ≤ 100 by simp; omega) (by decide)) ?_
    walk_at "go"
    rename_i r9 H9 r90 r91 e9 p9
    rw [cut_from (by omega)]
    have ht2 : (old.drop (1 + r7 + r9).toNat).length ≤ 8 := by rw [List.length_drop]; omega
    refine s_addS (Nat.le_trans (show _ ≤ 100 by simp; omega) (by decide)) ?_
    refine s_noPart ?_
    walk_at "go"
    rw [cut_to (by omega)]
    refine kn _ _ ⟨_, _, _, _, rfl, ?_, (((e04.trans e5).trans (e6.trans e7)).trans e8).trans e9, p9⟩
    obtain ⟨t, ht⟩ : ∃ t, (1 + r7).toNat = t + 1 := ⟨(1 + r7).toNat - 1, by omega⟩
    refine ⟨?_, ?_, ⟨o, ?_, ?_, hoL⟩, ?_⟩
    · rw [List.length_take]
      simp only [List.length_append, List.length_take, List.length_singleton]
      omega
    · rw [List.length_take]
      show min 8 _ ≤ 8
      omega
    · exact ((os.take t ++ [d]) ++ old.drop (1 + r7 + r9).toNat).take 7
    · rw [ht]
      conv => lhs; rw [ho]
      show List.take (7 + 1) ((o :: os).take (t + 1) ++ [d] ++ _) = _
      rw [List.take_succ_cons, List.cons_append, List.cons_append, List.take_succ_cons]
      rw [ho]
    · intro x hx
      have hx := List.mem_of_mem_take hx
      rcases List.mem_append.mp hx with hx | hx
      · rcases List.mem_append.mp hx with hx | hx
        · exact o3 x (List.mem_of_mem_take hx)
        · rw [List.mem_singleton.mp hx]; exact hdm
      · exact o3 x (List.mem_of_mem_drop hx)
  · rintro σ G ⟨n, x4, x5, x6, rfl, hn, e4, p4⟩
    walk_at "go"
    rename_i q H5 nq e5 h5
    refine s_slS (Nat.le_trans (show MRK.length ≤ 100 by decide) (by decide)) ?_
    rw [show cut MRK none (some 9) = LET.take 9 by rw [cut_to (by decide)]; rfl]
    walk_at "go"
    refine lc_mapS (by decide) (fun _ => true) (fun c => vS [122, c]) (fun d H6 C1 C0 hd e6 k1 k0 => ?_) (fun D H6 hD e6 h6 => ?_)
    · refine s_yes ?_
      walk_at "go"
      exact k1 _ Ex.rfl rfl
    refine s_cat (e6.get0 h5) h6 (Nat.le_trans (m := 100) (by simp) (by decide)) fun u H7 nu e7 h7 => ?_
    have hls : ([vS n] ++ ((LET.take 9).filter fun _ => true).map fun c => vS [122, c]) = (n :: (LET.take 9).map fun c => [122, c]).map vS := rfl
    rw [hls] at h7
    have hf7 : H7 f = some (.lst (ns.map vS)) := e7.get0 (e6.get0 (e5.get0 (e4.get (by simpa using hfa) hf)))
    walk_at "go"
    refine lc_fm8 (ls := n :: (LET.take 9).map fun c => [122, c]) (SqL.of h7) (by simp) (fun l => !decide (l ∈ ns)) vS (fun l H8 C1 C0 hl e8 k1 k0 => ?_) (fun D2 H8 hD2 e8 h8 => ?_)
    · walk_at "go"
      refine s_notInL (SqL.of (e8.get0 hf7)) ?_
      walk_at "go"
      refine s_2 (fun hb => ?_) (fun hb => ?_)
      · walk_at "go"
        exact k1 _ Ex.rfl hb
      · exact k0 _ Ex.rfl hb
    have e08 : Ex [a] H H8 := e4.trans (((e5.trans e6).trans (e7.trans e8)).wide)
    have p08 : PoolAt H8 a := p4.ex ((e5.trans e6).trans (e7.trans e8)) (by simp)
    have hmem : ∀ l ∈ (n :: (LET.take 9).map fun c => [122, c]), isName l := fun l hl => by
      rcases List.mem_cons.mp hl with rfl | hl
      · exact hn
      · obtain ⟨c, hc, rfl⟩ := List.mem_map.mp hl
        exact ⟨by simp, by simp, ⟨122, [c], rfl, by decide⟩, fun x hx => by
          rcases List.mem_cons.mp hx with rfl | hx
          · decide
          · rw [List.mem_singleton.mp hx]; exact let_mrk (List.mem_of_mem_take hc)⟩
    obtain ⟨l0, rest, hfl⟩ : ∃ l0 rest, (n :: (LET.take 9).map fun c => [122, c]).filter (fun l => !decide (l ∈ ns)) = l0 :: rest := by
      refine List.exists_cons_of_ne_nil fun hnil => ?_
      have hall : ∀ l ∈ (LET.take 9).map (fun c => [122, c]), l ∈ ns := fun l hl => by
        have := List.filter_eq_nil_iff.mp hnil l (List.mem_cons_of_mem _ hl)
        simpa using this
      have := nodup_le _ ns (by decide : ((LET.take 9).map (fun c => [122, c])).Nodup) hall
      have h9 : ((LET.take 9).map (fun c => [122, c])).length = 9 := rfl
      omega
    rw [hfl] at h8
    have hm0 : l0 ∈ (n :: (LET.take 9).map fun c => [122, c]).filter (fun l => !decide (l ∈ ns)) := by rw [hfl]; exact List.mem_cons_self
    obtain ⟨hm1, hm2⟩ := List.mem_filter.mp hm0
    walk_at "go"
    refine s_ixL (v := vS l0) (SqL.of h8) (atI_of (by decide) rfl) ?_
    exact k l0 _ (hmem l0 hm1) (by simpa using hm2) e08 p08
theorem pure_law_names (h : sp_law_names K vs H Q E) : t_law_names K (E1 Q) (start ["_law_pool_here", "_law_many", "_law_found", "_law_turn"] vs) H := by
  obtain ⟨a, m, rfl, m1, m6, hp, k⟩ := h
  show t_law_names K (E1 Q) [some (.ref a), some (.int m), none, none] H
  unfold t_law_names
  walk_at "go"
  rename_i q H1 nq e1 h1
  have hqa : q ≠ a := fun z => hp.there (z ▸ nq)
  refine for_run walk_range (fun i σ G => ∃ (ns : List (List Nat)) (x3 : Option V), σ = [some (.ref a), some (.int m), some (.ref q), x3] ∧ ns.length = i ∧ ns.Nodup ∧ (∀ n ∈ ns, isName n) ∧ Ex [a] H G ∧ PoolAt G a ∧ G q = some (.lst (ns.map vS))) ⟨[], none, rfl, rfl, by simp, by simp, e1.wide, hp.ex e1 (by simp), h1⟩ (fun _ _ _ _ _ => trivial) ?_ ?_
  · rintro i x σ G G2 hi ⟨ns, x3, rfl, hl, hd, hn, e2, p2, h2⟩ ⟨rfl, rfl⟩
    walk_at "go"
    refine u_name hqa h2 hn (by omega) p2 fun n G3 hn3 hni e3 p3 => ?_
    have h3 := e3.get (by simpa using hqa) h2
    walk_at "go"
    refine s_append h3 (Nat.lt_of_le_of_lt (show _ ≤ 100 by simp; omega) (by decide)) fun G4 e4 h4 => ?_
    refine ⟨ns ++ [n], _, rfl, by simp [hl], ?_, fun l hl => ?_, Ex.dropN nq (e2.trans e3) e4, p3.ex e4 (by simpa using Ne.symm hqa), by rw [h4, List.map_append]; rfl⟩
    · exact List.nodup_append.mpr ⟨hd, by simp, fun x hx y hy z => hni (by rw [List.mem_singleton.mp hy] at z; rw [← z]; exact hx)⟩
    · rcases List.mem_append.mp hl with hl | hl
      · exact hn l hl
      · rw [List.mem_singleton.mp hl]; exact hn3
  · rintro σ G ⟨ns, x3, rfl, hl, hd, hn, e2, p2, h2⟩
    walk_at "go"
    exact k ns q _ ⟨by omega, by omega, hd, hn⟩ (by omega) nq e2 p2 h2
theorem pure_law_amount (h : sp_law_amount K vs H Q E) : t_law_amount K (E1 Q) (start ["_law_pool_here", "_law_great", "_law_way"] vs) H := by
  obtain ⟨a, g, rfl, hp, k⟩ := h
  show t_law_amount K (E1 Q) [some (.ref a), some (.bl g), none] H
  unfold t_law_amount
  walk_at "go"
  rename_i r H1 r0 r1 e1 p1
  have hB : 2000 ≤ 2 ^ 200 := by decide
  by_cases h1 : r < 9
  · refine s_T (decide_eq_true h1) ?_
    walk_at "go"
    rename_i r2 H2 r20 r21 e2 p2
    exact k _ _ (by omega) (e1.trans e2) p2
  refine s_F (decide_eq_false h1) ?_
  walk_at "go"
  have small : ∀ G, Ex [a] H1 G → PoolAt G a → (tRet (tOp rSubI (tCall (sp_law_draw K) [] E0 (tCons (tVar 0) (tCons (tC (.int 2001)) tNil))) (tC (.int 1000)))) (E1 Q) [some (.ref a), some (.bl g), some (.int r)] G := by
    intro G eG pG
    show tRet _ ⟨_, _, _, _⟩ _ _
    walk_at "go"
    rename_i r2 H2 r20 r21 e2 p2
    exact k _ _ (by omega) (e1.trans (eG.trans e2)) p2
  by_cases h2 : r < 11
  · refine s_T (decide_eq_true h2) ?_
    walk_at "go"
    rename_i r2 H2 r20 r21 e2 p2
    exact k _ _ (by omega) (e1.trans e2) p2
  refine s_F (decide_eq_false h2) ?_
  walk_at "go"
  refine s_2 (fun hg => ?_) (fun hg => ?_)
  · walk_at "go"
    rename_i r2 H2 r20 r21 e2 p2
    exact k _ _ (by omega) (e1.trans e2) p2
  walk_at "go"
  rename_i q H2 nq e2 h3 r3 H3 r30 r31 e3 p3
  have hqa : q ≠ a := fun z => p1.there (z ▸ nq)
  have h4 := e3.get (by simpa using hqa) h3
  have e03 : Ex [a] H H3 := (e1.trans e2.wide).trans e3
  have hr : r3 = 0 ∨ r3 = 1 ∨ r3 = 2 ∨ r3 = 3 := by omega
  rcases hr with rfl | rfl | rfl | rfl
  · exact s_ixL (SqL.of h4) (atI_of (by decide) rfl) (k _ _ (by decide) e03 p3)
  · exact s_ixL (SqL.of h4) (atI_of (by decide) rfl) (k _ _ (by decide) e03 p3)
  · exact s_ixL (SqL.of h4) (atI_of (by decide) rfl) (k _ _ (by decide) e03 p3)
  · exact s_ixL (SqL.of h4) (atI_of (by decide) rfl) (k _ _ (by decide) e03 p3)
end
end WB
namespace WB
open PySem PySem.Spec PyProof.Rows L2
local macro_rules | `(tactic| walk_at "lit") => `(tactic| first | exact lit_abc | exact lit_empty)
local macro_rules | `(tactic| walk_at "nm") => `(tactic| focus first | exact List.not_mem_nil | (simp only [List.mem_singleton]; first | assumption | (exact Ne.symm (by assumption)) | (intro hz; subst hz; simp_all; done)))
local macro_rules | `(tactic| walk_at "hp") => `(tactic| first | assumption | (apply Ex.get0 (by assumption); walk_at "hp") | (apply Ex.get (by assumption); (walk_at "nm"); (walk_at "hp")))
local macro_rules | `(tactic| walk_at "sq") => `(tactic| first | assumption | (apply SqL.of; walk_at "hp") | (apply Ex.sqL (by assumption); (walk_at "nm"); (walk_at "sq")))
local macro_rules | `(tactic| walk_at "sqt") => `(tactic| first | assumption | (apply SqT.of; walk_at "hp") | (apply Ex.sqT (by assumption); (walk_at "nm"); (walk_at "sqt")))
local macro_rules | `(tactic| walk_at "sz") => `(tactic| focus ((with_reducible refine Nat.le_trans (m := 100000) ?_ (by decide)); first | omega | (simp; done) | (simp; omega)))
local macro_rules | `(tactic| walk_at "mul") => `(tactic| first | exact Or.inr ⟨by omega, by omega⟩ | exact Or.inl ⟨by omega, by omega⟩)
local macro_rules | `(tactic| walk_at "pool") => `(tactic| first | assumption | (apply PoolAt.ex (by assumption); (walk_at "nm"); (walk_at "pool")))
local macro_rules | `(tactic| walk_at "ring") => `(tactic| first | assumption | (apply RingAt.ex (by assumption); (walk_at "nm"); (walk_at "ring")))
local macro_rules | `(tactic| walk_at "st") => `(tactic| first
  | with_reducible refine s_seq ?_
  | with_reducible refine s_asg ?_
  | with_reducible refine s_gName ?_
  | with_reducible refine s_ret ?_
  | with_reducible refine s_ifS ?_
  | with_reducible refine s_next ?_
  | with_reducible refine s_op ?_
  | ((with_reducible apply s_var); exact rfl)
  | ((with_reducible apply s_cS); (walk_at "lit"))
  | with_reducible refine s_c ?_
  | with_reducible refine s_cb ?_
  | with_reducible refine s_cons ?_
  | with_reducible refine s_nil ?_
  | with_reducible refine s_un ?_
  | with_reducible refine s_call ?_
  | with_reducible refine s_test ?_
  | with_reducible refine s_tB ?_
  | with_reducible refine s_blQ ?_
  | with_reducible refine s_not ?_
  | with_reducible refine s_and ?_
  | with_reducible refine s_or ?_
  | with_reducible refine s_andV ?_
  | with_reducible refine s_orV ?_
  | with_reducible refine s_notV ?_
  | with_reducible refine s_ifE ?_
  | with_reducible refine s_chain ?_
  | ((with_reducible refine s_T ?_ ?_); (with_reducible exact rfl))
  | with_reducible refine s_nT ?_
  | with_reducible refine s_nF ?_
  | ((with_reducible refine s_F ?_ ?_); (with_reducible exact rfl))
  | ((with_reducible refine s_T ?_ ?_); assumption)
  | ((with_reducible refine s_F ?_ ?_); assumption)
  | ((with_reducible refine s_nB ?_ ?_); assumption)
  | ((with_reducible refine s_nA ?_ ?_); assumption)
  | ((with_reducible refine s_Td ?_ ?_); omega)
  | ((with_reducible refine s_Fd ?_ ?_); omega)
  | ((with_reducible refine s_nTd ?_ ?_); omega)
  | ((with_reducible refine s_nFd ?_ ?_); omega)
  | with_reducible refine s_sfld ?_
  | with_reducible refine s_addI ?_
  | with_reducible refine s_subI ?_
  | ((with_reducible refine s_mulI ?_ ?_); (walk_at "mul"))
  | ((with_reducible refine s_divI ?_ ?_); exact ⟨by omega, by omega⟩)
  | ((with_reducible refine s_modI ?_ ?_); omega)
  | ((with_reducible refine s_powI ?_ ?_); exact ⟨by decide, by decide, by decide⟩)
  | with_reducible refine s_ltI ?_
  | with_reducible refine s_leI ?_
  | with_reducible refine s_gtI ?_
  | with_reducible refine s_geI ?_
  | with_reducible refine s_negI ?_
  | with_reducible refine s_absI ?_
  | with_reducible refine s_intI ?_
  | with_reducible refine s_min2 ?_
  | with_reducible refine s_max2 ?_
  | with_reducible refine s_eqI ?_
  | with_reducible refine s_neI ?_
  | with_reducible refine s_eqS ?_
  | with_reducible refine s_neS ?_
  | with_reducible refine s_inSg ?_
  | with_reducible refine s_notInSg ?_
  | ((with_reducible refine s_addS ?_ ?_); (walk_at "sz"))
  | ((with_reducible refine s_lenS ?_ ?_); (walk_at "sz"))
  | ((with_reducible apply s_lenL); (walk_at "sq"))
  | ((with_reducible apply s_lenT); (walk_at "sqt"))
  | ((with_reducible apply s_ixL); (walk_at "sq"); exact rfl)
  | ((with_reducible apply s_ixT); (walk_at "sqt"); exact rfl)
  | with_reducible refine s_gSub ?_
  | ((with_reducible apply s_setL); (walk_at "hp"); (exact rfl); (intro _ _ _))
  | ((with_reducible refine s_alloc ?_ ?_); (walk_at "sz"); (intro _ _ _ _ _))
  | ((with_reducible refine s_divmod ?_ ?_); (exact ⟨by omega, PyProof.noPylong_small (by omega)⟩); (intro _ _ _ _ _))
  | ((with_reducible apply s_gTup); (walk_at "sqt"); (exact rfl))
  | ((with_reducible apply s_gLst); (walk_at "sq"); (exact rfl))
  | with_reducible refine s_gCons ?_
  | with_reducible refine s_gNil ?_
  | with_reducible refine s_lc ?_
  | ((with_reducible apply s_cat); (walk_at "hp"); (walk_at "hp"); (walk_at "sz"); (intro _ _ _ _ _))
  | ((with_reducible apply s_slL); (walk_at "sq"); (intro _ _ _ _ _))
  | with_reducible refine s_for ?_
  | with_reducible refine s_rng1 ?_
  | ((with_reducible refine s_rng1i ?_ ?_); (constructor <;> omega))
  | with_reducible refine s_rng2 ?_
  | ((with_reducible refine s_rng2i ?_ ?_); (refine ⟨?_, ?_, ?_, ?_⟩ <;> omega))
  | with_reducible refine s_iStr ?_
  | with_reducible refine s_iStrS ?_
  | with_reducible refine s_iList ?_
  | ((with_reducible apply s_iListA); (walk_at "sq"))
  | with_reducible refine s_iTup ?_
  | ((with_reducible apply s_iTupA); (walk_at "sqt"))
  | with_reducible refine s_sl ?_
  | with_reducible refine s_noPart ?_
  | with_reducible refine s_part ?_
  | with_reducible refine s_int1 ?_
  | ((with_reducible refine s_slS ?_ ?_); (walk_at "sz"))
  | with_reducible refine s_tup ?_
  | with_reducible refine s_lst ?_
  | with_reducible refine s_par ?_
  | with_reducible refine s_pair ?_
  | with_reducible refine s_M1 ?_
  | with_reducible refine s_isStr ?_
  | with_reducible refine s_revS ?_
  | ((with_reducible refine s_revS1 ?_ ?_); (walk_at "sz"))
  | with_reducible refine s_fldE ?_
  | with_reducible refine s_propE ?_
  | ((with_reducible refine u_draw ?_ ?_ ?_ ?_); omega; omega; (walk_at "pool"); (intro _ _ _ _ _ _))
  | ((with_reducible refine u_pool ?_); (intro _ _ _ _ _))
  | with_reducible refine u_is_integer ?_
  | with_reducible refine s_isiII ?_
  | with_reducible refine s_isiIB ?_
  | with_reducible refine s_isiSS ?_
  | ((with_reducible apply u_fldRing); assumption; (walk_at "ring"))
  | ((with_reducible apply u_textP); (walk_at "ring"))
  | ((with_reducible apply u_strRing); (walk_at "ring"))
  | ((with_reducible apply u_eqRing); (walk_at "ring"); (walk_at "ring"))
  | ((with_reducible apply u_isiRing); assumption; (walk_at "ring"))
  | ((with_reducible refine u_is_word ?_ ?_); omega; (intro _ _))
  | ((with_reducible refine u_turnings ?_ ?_); omega; (intro _ _ _ _ _))
  | with_reducible refine s_makeE ?_
  | with_reducible refine s_methE ?_)
local macro_rules | `(tactic| walk_at "go") => `(tactic| repeat (walk_at "st"))
local macro_rules | `(tactic| walk_at "exs") => `(tactic| first | exact Ex.rfl | assumption | (apply Ex.snoc (by assumption); walk_at "exs") | (apply Ex.snocW (by assumption); walk_at "exs"))
local macro_rules | `(tactic| walk_at "kind") => `(tactic| first | assumption | (apply KindAt.ex0 (by assumption); (walk_at "kind")) | (apply KindAt.exP (by assumption) (by assumption); (walk_at "kind")))
local macro_rules | `(tactic| walk_at "st") => `(tactic| first
  | with_reducible refine s_lenSet ?_
  | with_reducible refine s_drop ?_
  | with_reducible refine s_bm ?_
  | with_reducible refine s_notN ?_
  | with_reducible refine s_isN ?_
  | ((with_reducible apply s_tyL); (walk_at "hp"))
  | with_reducible refine s_enumT ?_
  | ((with_reducible apply s_enumTA); (walk_at "sqt"))
  | with_reducible refine s_lc2 ?_)
local macro_rules | `(tactic| walk_at "lit") => `(tactic| exact lit_MRK)
local macro_rules | `(tactic| walk_at "st") => `(tactic| first
  | with_reducible refine s_dcT ?_
  | with_reducible refine s_dc ?_)
local macro_rules | `(tactic| walk_at "lit") => `(tactic| exact lit_z)
/-- _law_model: 0 _law_pool_here 1 _law_abc 2 _law_most 3 _law_great 4 _law_posts 5 _law_steps 6 _law_ends 7 _law_post 8 _law_mark 9 _law_oks -/
def t_law_model (K : PySem.W.Frag) : TS :=
  (tSeq (tAsg (tCall (sp_law_names K) [] E0 (tCons (tVar 0) (tCons (tOp rAddI (tC (.int 1)) (tCall (sp_law_draw K) [] E0 (tCons (tVar 0) (tCons (tVar 2) tNil)))) tNil))) (gName 4))
  (tSeq (tPar 5 6 (tCons tDNewT (tCons tDNewK tNil)))
  (tSeq (tFor (iList K (tVar 4)) (gName 7) (tSeq (tFor (iStr (tVar 1)) (gName 8) (sDPut (tVar 5) (tTup (tCons (tVar 7) (tCons (tVar 8) tNil))) (tTup (tCons (tOp (rIxL K) (tVar 4) (tCall (sp_law_draw K) [] E0 (tCons (tVar 0) (tCons (tCB (rLenV K) (tCons (tVar 4) tNil)) tNil)))) (tCons (tCall (sp_law_amount K) [] E0 (tCons (tVar 0) (tCons (tVar 3) tNil))) tNil)))))
  (tSeq (sDPut (tVar 6) (tVar 7) (tTup (tCons (tVar 7) (tCons (tC (.int 0)) tNil))))
  (tIfS (tTest (tOp rGtI (tCall (sp_law_draw K) [] E0 (tCons (tVar 0) (tCons (tC (.int 3)) tNil))) (tC (.int 0)))) (sDPut (tVar 6) (tVar 7) (tTup (tCons (tOp (rIxL K) (tVar 4) (tCall (sp_law_draw K) [] E0 (tCons (tVar 0) (tCons (tCB (rLenV K) (tCons (tVar 4) tNil)) tNil)))) (tCons (tCall (sp_law_amount K) [] E0 (tCons (tVar 0) (tCons (tVar 3) tNil))) tNil)))) tNext))))
  (tSeq (tAsg (tLc (iList K (tVar 4)) (gName 7) (tTest (tOp rEq (tCall (sp_law_draw K) [] E0 (tCons (tVar 0) (tCons (tC (.int 2)) tNil))) (tC (.int 0)))) (tVar 7) [7]) (gName 9))
  (tRet (tLst (tCons (tVar 1) (tCons (tVar 4) (tCons (tVar 5) (tCons (tVar 6) (tCons (tVar 9) tNil)))))))))))
section
variable {K : PySem.W.Frag} {vs : List V} {H H' : Hp} {Q : VK} {E : XK} {x q : Addr} {M : LM}
theorem s_dnewT {σ : St} (k : ∀ p H2, H p = none → Ex [] H H2 → H2 p = some (.dT []) → Q (.ref p) H2) : tDNewT σ H Q := fun p hp => k p _ hp (Ex.new hp) upd_same
theorem s_dnewK {σ : St} (k : ∀ p H2, H p = none → Ex [] H H2 → H2 p = some (.dK []) → Q (.ref p) H2) : tDNewK σ H Q := fun p hp => k p _ hp (Ex.new hp) upd_same
theorem s_dput {td ty tv : TE} {n b c : St → Hp → Prop} {rt : VK} {σ : St} (k : tv σ H fun v H1 => td σ H1 fun x H2 => ty σ H2 fun y H3 => ∃ a H4, x = .ref a ∧ DPut H3 a y v H4 ∧ n σ H4) : sDPut td ty tv ⟨n, rt, b, c⟩ σ H := k
def TE1 (K : PySem.W.Frag) (H : Hp) (st : List (List Nat)) (kt : List (List Key × V)) (b : List Nat) (c : Nat) : Prop := ∃ (z : List Nat × Int) (p : Addr), valV kt [kS b, kS [c]] = some (.ref p) ∧ SqT K H p [vS z.1, .int z.2] ∧ z.1 ∈ st ∧ z.2.natAbs ≤ 2 ^ 200
def EE1 (K : PySem.W.Frag) (H : Hp) (st : List (List Nat)) (ke : List (Key × V)) (b : List Nat) : Prop := ∃ (z : List Nat × Int) (p : Addr), valV ke (kS b) = some (.ref p) ∧ SqT K H p [vS z.1, .int z.2] ∧ z.1 ∈ st ∧ z.2.natAbs ≤ 2 ^ 200
structure MSt (K : PySem.W.Frag) (H0 : Hp) (a po ss es : Addr) (st : List (List Nat)) (D : List Nat → Nat → Prop) (D2 : List Nat → Prop) (n : Nat) (H : Hp) : Prop where
  ex : Ex [a] H0 H
  pool : PoolAt H a
  po : H po = some (.lst (st.map vS))
  tb : ∃ kt, H ss = some (.dT kt) ∧ kt.length ≤ n ∧ ∀ b c, D b c → TE1 K H st kt b c
  en : ∃ ke, H es = some (.dK ke) ∧ ke.length ≤ n ∧ ∀ b, D2 b → EE1 K H st ke b
section
variable {H0 : Hp} {a po ss es : Addr} {st : List (List Nat)} {D : List Nat → Nat → Prop} {D2 : List Nat → Prop} {n : Nat}
theorem MSt.ex0 (e : Ex [] H H') (m : MSt K H0 a po ss es st D D2 n H) : MSt K H0 a po ss es st D D2 n H' := by
  obtain ⟨h1, h2, h3, ⟨kt, h4, h5, h6⟩, ⟨ke, h7, h8, h9⟩⟩ := m
  refine ⟨h1.trans e.wide, h2.ex e (by simp), e.get0 h3, ⟨kt, e.get0 h4, h5, fun b c d => ?_⟩, ⟨ke, e.get0 h7, h8, fun b d => ?_⟩⟩
  · obtain ⟨z, p, z1, z2, z3⟩ := h6 b c d
    exact ⟨z, p, z1, e.sqT (by simp) z2, z3⟩
  · obtain ⟨z, p, z1, z2, z3⟩ := h9 b d
    exact ⟨z, p, z1, e.sqT (by simp) z2, z3⟩
theorem MSt.draw (e : Ex [a] H H') (hp : PoolAt H' a) (m : MSt K H0 a po ss es st D D2 n H) : MSt K H0 a po ss es st D D2 n H' := by
  obtain ⟨h1, h2, h3, ⟨kt, h4, h5, h6⟩, ⟨ke, h7, h8, h9⟩⟩ := m
  have h2' := h2
  obtain ⟨y1, y2, y3, hq⟩ := h2'
  refine ⟨h1.trans e, hp, e.get ?_ h3, ⟨kt, e.get ?_ h4, h5, fun b c d => ?_⟩, ⟨ke, e.get ?_ h7, h8, fun b d => ?_⟩⟩
  · simp only [List.mem_singleton]; intro w; rw [w, hq] at h3; exact strs_ne (HO.lst.inj (Option.some.inj h3)).symm
  · simp only [List.mem_singleton]; intro w; rw [w, hq] at h4; cases h4
  · obtain ⟨z, p, z1, z2, z3⟩ := h6 b c d
    exact ⟨z, p, z1, sqT_pool h2 e z2, z3⟩
  · simp only [List.mem_singleton]; intro w; rw [w, hq] at h7; cases h7
  · obtain ⟨z, p, z1, z2, z3⟩ := h9 b d
    exact ⟨z, p, z1, sqT_pool h2 e z2, z3⟩
theorem MSt.putT {k0 p : Addr} {x y : List Nat} {c : Nat} {z : Int} (m : MSt K H0 a po ss es st D D2 n H) (hss : H0 ss = none) (hn : n ≤ 1000) (hk : H k0 = some (.tup [vS x, vS [c]])) (hp : SqT K H p [vS y, .int z]) (hy : y ∈ st) (hz : z.natAbs ≤ 2 ^ 200) :
    ∃ H4, DPut H ss (.ref k0) (.ref p) H4 ∧ MSt K H0 a po ss es st (fun b d => D b d ∨ (b = x ∧ d = c)) D2 (n + 1) H4 := by
  obtain ⟨h1, h2, h3, ⟨kt, h4, h5, h6⟩, ⟨ke, h7, h8, h9⟩⟩ := m
  have h2' := h2
  obtain ⟨y1, y2, y3, hq⟩ := h2'
  have e : Ex [ss] H (upd H ss (.dT (putK kt [kS x, kS [c]] (.ref p)))) := Ex.put (by simp)
  have keep : ∀ {t : Addr} {xs : List V}, SqT K H t xs → SqT K (upd H ss (.dT (putK kt [kS x, kS [c]] (.ref p)))) t xs := fun h => sqT_non h4 (fun _ w => by cases w) (fun _ _ w => by cases w) e h
  refine ⟨_, DPut.t h4 (k := [kS x, kS [c]]) hk (Nat.lt_of_le_of_lt (Nat.le_trans h5 hn) (by decide)), ?_, ?_, ?_, ⟨_, upd_same, Nat.le_trans (length_putK _ _ _) (by omega), fun b d hbd => ?_⟩, ⟨ke, ?_, by omega, fun b hb => ?_⟩⟩
  · exact Ex.dropN hss h1 e
  · exact h2.ex e (by simp only [List.mem_singleton]; intro w; rw [← w, hq] at h4; cases h4)
  · exact e.get (by simp only [List.mem_singleton]; intro w; rw [w, h4] at h3; cases h3) h3
  · by_cases hk : b = x ∧ d = c
    · obtain ⟨rfl, rfl⟩ := hk
      exact ⟨(y, z), p, by rw [valV_put, if_pos rfl], keep hp, hy, hz⟩
    · obtain ⟨z', p', z1, z2, z3⟩ := h6 b d (hbd.resolve_right hk)
      refine ⟨z', p', ?_, keep z2, z3⟩
      rw [valV_put, if_neg, z1]
      intro w
      have w1 := List.cons.inj w
      have w2 := List.cons.inj w1.2
      exact hk ⟨kS_inj w1.1, by have := kS_inj w2.1; simpa using this⟩
  · exact e.get (by simp only [List.mem_singleton]; intro w; rw [w, h4] at h7; cases h7) h7
  · obtain ⟨z', p', z1, z2, z3⟩ := h9 b hb
    exact ⟨z', p', z1, keep z2, z3⟩
theorem MSt.putE {p : Addr} {x y : List Nat} {z : Int} (m : MSt K H0 a po ss es st D D2 n H) (hes : H0 es = none) (hn : n ≤ 1000) (hp : SqT K H p [vS y, .int z]) (hy : y ∈ st) (hz : z.natAbs ≤ 2 ^ 200) :
    ∃ H4, DPut H es (vS x) (.ref p) H4 ∧ MSt K H0 a po ss es st D (fun b => D2 b ∨ b = x) (n + 1) H4 := by
  obtain ⟨h1, h2, h3, ⟨kt, h4, h5, h6⟩, ⟨ke, h7, h8, h9⟩⟩ := m
  have h2' := h2
  obtain ⟨y1, y2, y3, hq⟩ := h2'
  have e : Ex [es] H (upd H es (.dK (putK ke (kS x) (.ref p)))) := Ex.put (by simp)
  have keep : ∀ {t : Addr} {xs : List V}, SqT K H t xs → SqT K (upd H es (.dK (putK ke (kS x) (.ref p)))) t xs := fun h => sqT_non h7 (fun _ w => by cases w) (fun _ _ w => by cases w) e h
  refine ⟨_, DPut.k h7 (k := kS x) (Nat.lt_of_le_of_lt (Nat.le_trans h8 hn) (by decide)), ?_, ?_, ?_, ⟨kt, ?_, by omega, fun b d hbd => ?_⟩, ⟨_, upd_same, Nat.le_trans (length_putK _ _ _) (by omega), fun b hb => ?_⟩⟩
  · exact Ex.dropN hes h1 e
  · exact h2.ex e (by simp only [List.mem_singleton]; intro w; rw [← w, hq] at h7; cases h7)
  · exact e.get (by simp only [List.mem_singleton]; intro w; rw [w, h7] at h3; cases h3) h3
  · exact e.get (by simp only [List.mem_singleton]; intro w; rw [w, h7] at h4; cases h4) h4
  · obtain ⟨z', p', z1, z2, z3⟩ := h6 b d hbd
    exact ⟨z', p', z1, keep z2, z3⟩
  · by_cases hk : b = x
    · subst hk
      exact ⟨(y, z), p, by rw [valV_put, if_pos rfl], keep hp, hy, hz⟩
    · obtain ⟨z', p', z1, z2, z3⟩ := h9 b (hb.resolve_right hk)
      refine ⟨z', p', ?_, keep z2, z3⟩
      rw [valV_put, if_neg (fun w => hk (kS_inj w)), z1]
theorem MSt.weak {D' : List Nat → Nat → Prop} {D2' : List Nat → Prop} {n' : Nat} (m : MSt K H0 a po ss es st D D2 n H) (h1 : ∀ b c, D' b c → D b c) (h2 : ∀ b, D2' b → D2 b) (h3 : n ≤ n') : MSt K H0 a po ss es st D' D2' n' H := by
  obtain ⟨z1, z2, z3, ⟨kt, h4, h5, h6⟩, ⟨ke, h7, h8, h9⟩⟩ := m
  exact ⟨z1, z2, z3, ⟨kt, h4, by omega, fun b c d => h6 b c (h1 b c d)⟩, ⟨ke, h7, by omega, fun b d => h9 b (h2 b d)⟩⟩
end
theorem Ex.freeP {a b : Addr} (hp : PoolAt H' a) (e : Ex [a] H H') (h : H' b = none) : H b = none := by
  cases hh : H b with
  | none => rfl
  | some o =>
    rw [e b o (by simp only [List.mem_singleton]; intro w; exact hp.there (w ▸ h)) hh] at h
    cases h
theorem filter_sub {l : List (List Nat)} : ∀ {m : List (List Nat)}, m.Sublist l → l.Nodup → l.filter (fun a => decide (a ∈ m)) = m := by
  intro m hs
  induction hs with
  | slnil => intro _; rfl
  | @cons l1 l2 b h ih =>
    intro hn
    obtain ⟨h1, h2⟩ := List.nodup_cons.mp hn
    rw [List.filter_cons_of_neg (by simpa using fun z => h1 (h.subset z))]
    exact ih h2
  | @cons_cons l1 l2 b h ih =>
    intro hn
    obtain ⟨h1, h2⟩ := List.nodup_cons.mp hn
    rw [List.filter_cons_of_pos (by simp)]
    have := ih h2
    rw [show l2.filter (fun a => decide (a ∈ b :: l1)) = l2.filter (fun a => decide (a ∈ l1)) from List.filter_congr fun a ha => by
      have : a ≠ b := fun z => h1 (z ▸ ha)
      simp [this], this]
theorem pure_law_model (h : sp_law_model K vs H Q E) : t_law_model K (E1 Q) (start ["_law_pool_here", "_law_abc", "_law_most", "_law_great", "_law_posts", "_law_steps", "_law_ends", "_law_post", "_law_mark", "_law_oks"] vs) H := by
  obtain ⟨a, s, m, g, rfl, hs, m1, m6, hp, k⟩ := h
  show t_law_model K (E1 Q) [some (.ref a), some (vS s), some (.int m), some (.bl g), none, none, none, none, none, none] H
  unfold t_law_model
  walk_at "go"
  rename_i r H1 r0 r1 e1 p1
  refine u_names (by omega) (by omega) p1 fun st po H2 hst hstl npo e2 p2 h2 => ?_
  walk_at "go"
  refine s_dnewT fun ss H3 nss e3 h3 => ?_
  walk_at "go"
  refine s_dnewK fun es H4 nes e4 h4 => ?_
  walk_at "go"
  have e02 : Ex [a] H H2 := e1.trans e2
  have hss : H ss = none := Ex.freeP p2 e02 nss
  have hes : H es = none := Ex.freeP p2 e02 (e3.free nes)
  have hpo : H po = none := Ex.freeP p1 e1 npo
  have hsl := hs.2.1
  have hst6 := hst.2.1
  have m0 : MSt K H a po ss es st (fun b c => b ∈ st.take 0 ∧ c ∈ s) (fun b => b ∈ st.take 0) 0 H4 := by
    have e24 := e3.trans e4
    exact ⟨e02.trans e24.wide, p2.ex e24 (by simp), e24.get0 h2, ⟨[], e4.get0 h3, by simp, fun b c d => by simp at d⟩, ⟨[], h4, by simp, fun b d => by simp at d⟩⟩
  clear e1 e2 e3 e4 p1 p2 h2 h3 h4 npo nss nes e02
  refine for_run (walk_list (xs := st.map vS)) (fun i σ G => ∃ x7 x8, σ = [some (.ref a), some (vS s), some (.int m), some (.bl g), some (.ref po), some (.ref ss), some (.ref es), x7, x8, none] ∧ MSt K H a po ss es st (fun b c => b ∈ st.take i ∧ c ∈ s) (fun b => b ∈ st.take i) (i * 10) G) ⟨none, none, rfl, m0⟩ (fun i σ G _ ⟨_, _, _, z⟩ => SqL.of z.po) ?_ ?_
  · rintro i x σ G G2 hi ⟨x7, x8, rfl, mi⟩ ⟨rfl, hx⟩
    rw [List.length_map] at hi
    rw [List.getElem?_map, List.getElem?_eq_getElem hi] at hx
    cases hx
    have hin : st[i] ∈ st := List.getElem_mem hi
    have htk : st.take (i + 1) = st.take i ++ [st[i]] := by rw [List.take_add_one, List.getElem?_eq_getElem hi]; rfl
    rw [htk]
    generalize st[i] = b at hin
    have val : ∀ {Q' : VK} {G : Hp} {D : List Nat → Nat → Prop} {D2 : List Nat → Prop} {n : Nat} {σ : St}, σ[0]? = some (some (.ref a)) → σ[4]? = some (some (.ref po)) → σ[3]? = some (some (.bl g)) → MSt K H a po ss es st D D2 n G → (∀ p y z G', Ex [a] G G' → MSt K H a po ss es st D D2 n G' → SqT K G' p [vS y, .int z] → y ∈ st → z.natAbs ≤ 2 ^ 200 → Q' (.ref p) G') →
        (tTup (tCons (tOp (rIxL K) (tVar 4) (tCall (sp_law_draw K) [] E0 (tCons (tVar 0) (tCons (tCB (rLenV K) (tCons (tVar 4) tNil)) tNil)))) (tCons (tCall (sp_law_amount K) [] E0 (tCons (tVar 0) (tCons (tVar 3) tNil))) tNil))) σ G Q' := by
      intro Q' G D D2 n σ s0 s4 s3 mg kq
      have hl : 0 < (st.map vS).length ∧ (st.map vS).length ≤ 6 := by rw [List.length_map]; exact ⟨hst.1, hst6⟩
      refine s_tup (s_cons (s_op (s_var s4 (s_call (s_cons (s_var s0 (s_cons (s_cb (s_cons (s_var s4 (s_nil (s_lenL (SqL.of mg.po) ?_))))))))))))
      refine s_nil ?_
      refine u_draw (by omega) (by omega) mg.pool fun r G1 r0 r1 e1 p1 => ?_
      have m1 := mg.draw e1 p1
      rw [List.length_map] at r1
      obtain ⟨y, hy⟩ : ∃ y, st[r.toNat]? = some y := ⟨_, List.getElem?_eq_getElem (by omega)⟩
      refine s_ixL (xs := st.map vS) (v := vS y) (SqL.of m1.po) (atI_of r0 (by rw [List.getElem?_map, hy]; rfl)) ?_
      refine s_cons (s_call (s_cons (s_var s0 (s_cons (s_var s3 (s_nil ?_))))))
      refine u_amount p1 fun z G2 hz e2 p2 => ?_
      have m2 := m1.draw e2 p2
      refine s_nil ?_
      refine s_alloc (by show 2 ≤ sizeLine; decide) fun p G3 np e3 h3 => ?_
      exact kq p y z G3 ((e1.trans e2).trans e3.wide) (m2.ex0 e3) (SqT.of h3) (List.mem_of_getElem? hy) hz
    refine s_gName ?_
    refine s_seq ?_
    refine s_for ?_
    walk_at "go"
    have wk := walk_str (z := S s)
    have hsz : (S s).cps.size = s.length := by simp [S]
    rw [hsz] at wk
    refine for_run wk (fun j σ G => ∃ x8, σ = [some (.ref a), some (vS s), some (.int m), some (.bl g), some (.ref po), some (.ref ss), some (.ref es), some (vS b), x8, none] ∧ MSt K H a po ss es st (fun b' c' => (b' ∈ st.take i ∧ c' ∈ s) ∨ (b' = b ∧ c' ∈ s.take j)) (fun b' => b' ∈ st.take i) (i * 10 + j) G) ⟨_, rfl, mi.weak (fun b' c' hh => hh.resolve_right fun w => by simp at w) (fun _ h => h) (by omega)⟩ (fun _ _ _ _ _ => trivial) ?_ ?_
    · rintro j y σ G3 G4 hj ⟨x8, rfl, mj⟩ ⟨rfl, c, hc, ev⟩
      have ev : y = vS [c] := ev
      subst ev
      have hc : s[j]? = some c := by simpa [S] using hc
      have ht1 : s.take (j + 1) = s.take j ++ [c] := by rw [List.take_add_one, hc]; rfl
      rw [ht1]
      refine s_gName ?_
      refine s_dput ?_
      refine val rfl rfl rfl mj fun p y z G5 e5 m5 hp5 hy hz => ?_
      walk_at "go"
      rename_i k0 G6 nk e6 h6
      obtain ⟨G7, d7, m7⟩ := (m5.ex0 e6).putT hss (by omega) h6 (e6.sqT (by simp) hp5) hy hz
      refine ⟨ss, G7, rfl, d7, _, rfl, m7.weak (fun b' c' hh => ?_) (fun _ h => h) (by omega)⟩
      rcases hh with hh | ⟨rfl, hh⟩
      · exact .inl (.inl hh)
      · rcases List.mem_append.mp hh with hh | hh
        · exact .inl (.inr ⟨rfl, hh⟩)
        · exact .inr ⟨rfl, List.mem_singleton.mp hh⟩
    · rintro σ G3 ⟨x8, rfl, mj⟩
      rw [List.take_length] at mj
      refine s_seq ?_
      refine s_dput ?_
      walk_at "go"
      rename_i p G5 np e5 h5
      obtain ⟨G7, d7, m7⟩ := (mj.ex0 e5).putE (x := b) hes (by omega) (SqT.of h5) hin (show (0 : Int).natAbs ≤ 2 ^ 200 by decide)
      refine ⟨es, G7, rfl, d7, ?_⟩
      have fin : ∀ {n : Nat} {G : Hp} {D2 : List Nat → Prop}, MSt K H a po ss es st (fun b' c' => (b' ∈ st.take i ∧ c' ∈ s) ∨ (b' = b ∧ c' ∈ s)) D2 n G → n ≤ i * 10 + 10 → (∀ b', b' ∈ st.take i ∨ b' = b → D2 b') → MSt K H a po ss es st (fun b' c' => b' ∈ st.take i ++ [b] ∧ c' ∈ s) (fun b' => b' ∈ st.take i ++ [b]) ((i + 1) * 10) G := fun mm hn hd => mm.weak (fun b' c' hh => by
          rcases List.mem_append.mp hh.1 with h | h
          · exact .inl ⟨h, hh.2⟩
          · exact .inr ⟨List.mem_singleton.mp h, hh.2⟩) (fun b' hh => by
          rcases List.mem_append.mp hh with h | h
          · exact hd b' (.inl h)
          · exact hd b' (.inr (List.mem_singleton.mp h))) (by omega)
      have p7 := m7.pool
      walk_at "go"
      rename_i r G8 r0 r1 e8 p8
      have m8 := m7.draw e8 p8
      refine s_2 (fun hr => ?_) (fun hr => ?_)
      · refine s_dput ?_
        refine val rfl rfl rfl m8 fun p y z G9 e9 m9 hp9 hy hz => ?_
        walk_at "go"
        obtain ⟨G10, d10, m10⟩ := m9.putE (x := b) hes (by omega) hp9 hy hz
        exact ⟨es, G10, rfl, d10, _, _, rfl, fin m10 (by omega) fun b' hb => .inl hb⟩
      · walk_at "go"
        exact ⟨_, _, rfl, fin m8 (by omega) fun b' hb => hb⟩
  · rintro σ G ⟨x7, x8, rfl, mi⟩
    rw [List.length_map, List.take_length] at mi
    have hpoa : po ≠ a := fun w => hp.there (w ▸ hpo)
    refine s_seq ?_
    refine s_asg ?_
    refine s_lc ?_
    refine s_iList ?_
    refine s_var rfl ?_
    refine s_iListA (xs := st.map vS) (SqL.of mi.po) ?_
    refine lc_subL mi.po hpoa (by simp) (by omega) mi.pool (fun x G1 R hx e1 p1 kr => ?_) fun D G1 ok hD e1 p1 hsub h1 => ?_
    · walk_at "go"
      rename_i r G2 r0 r1 e2 p2
      exact kr _ _ e2 p2
    have m1 := mi.draw e1 p1
    walk_at "go"
    rename_i q G2 nq e2 h2
    have m2 := m1.ex0 e2
    obtain ⟨kt, h4, h5, h6⟩ := m2.tb
    obtain ⟨ke, h7, h8, h9⟩ := m2.en
    have cT : ∀ b c, b ∈ st → c ∈ s → ∃ p, valV kt [kS b, kS [c]] = some (.ref p) ∧ SqT K G2 p [vS (Classical.epsilon fun z : List Nat × Int => ∃ p, valV kt [kS b, kS [c]] = some (.ref p) ∧ SqT K G2 p [vS z.1, .int z.2] ∧ z.1 ∈ st ∧ z.2.natAbs ≤ 2 ^ 200).1, .int (Classical.epsilon fun z : List Nat × Int => ∃ p, valV kt [kS b, kS [c]] = some (.ref p) ∧ SqT K G2 p [vS z.1, .int z.2] ∧ z.1 ∈ st ∧ z.2.natAbs ≤ 2 ^ 200).2] ∧ (Classical.epsilon fun z : List Nat × Int => ∃ p, valV kt [kS b, kS [c]] = some (.ref p) ∧ SqT K G2 p [vS z.1, .int z.2] ∧ z.1 ∈ st ∧ z.2.natAbs ≤ 2 ^ 200).1 ∈ st ∧ (Classical.epsilon fun z : List Nat × Int => ∃ p, valV kt [kS b, kS [c]] = some (.ref p) ∧ SqT K G2 p [vS z.1, .int z.2] ∧ z.1 ∈ st ∧ z.2.natAbs ≤ 2 ^ 200).2.natAbs ≤ 2 ^ 200 := fun b c hb hc => Classical.epsilon_spec (p := fun z : List Nat × Int => ∃ p, valV kt [kS b, kS [c]] = some (.ref p) ∧ SqT K G2 p [vS z.1, .int z.2] ∧ z.1 ∈ st ∧ z.2.natAbs ≤ 2 ^ 200) (h6 b c ⟨hb, hc⟩)
    have cE : ∀ b, b ∈ st → ∃ p, valV ke (kS b) = some (.ref p) ∧ SqT K G2 p [vS (Classical.epsilon fun z : List Nat × Int => ∃ p, valV ke (kS b) = some (.ref p) ∧ SqT K G2 p [vS z.1, .int z.2] ∧ z.1 ∈ st ∧ z.2.natAbs ≤ 2 ^ 200).1, .int (Classical.epsilon fun z : List Nat × Int => ∃ p, valV ke (kS b) = some (.ref p) ∧ SqT K G2 p [vS z.1, .int z.2] ∧ z.1 ∈ st ∧ z.2.natAbs ≤ 2 ^ 200).2] ∧ (Classical.epsilon fun z : List Nat × Int => ∃ p, valV ke (kS b) = some (.ref p) ∧ SqT K G2 p [vS z.1, .int z.2] ∧ z.1 ∈ st ∧ z.2.natAbs ≤ 2 ^ 200).1 ∈ st ∧ (Classical.epsilon fun z : List Nat × Int => ∃ p, valV ke (kS b) = some (.ref p) ∧ SqT K G2 p [vS z.1, .int z.2] ∧ z.1 ∈ st ∧ z.2.natAbs ≤ 2 ^ 200).2.natAbs ≤ 2 ^ 200 := fun b hb => Classical.epsilon_spec (p := fun z : List Nat × Int => ∃ p, valV ke (kS b) = some (.ref p) ∧ SqT K G2 p [vS z.1, .int z.2] ∧ z.1 ∈ st ∧ z.2.natAbs ≤ 2 ^ 200) (h9 b hb)
    have hsub2 : ∀ b ∈ ok, b ∈ st := fun b hb => hsub.subset hb
    refine k q ⟨s, st, fun b c => Classical.epsilon fun z : List Nat × Int => ∃ p, valV kt [kS b, kS [c]] = some (.ref p) ∧ SqT K G2 p [vS z.1, .int z.2] ∧ z.1 ∈ st ∧ z.2.natAbs ≤ 2 ^ 200, fun b => Classical.epsilon fun z : List Nat × Int => ∃ p, valV ke (kS b) = some (.ref p) ∧ SqT K G2 p [vS z.1, .int z.2] ∧ z.1 ∈ st ∧ z.2.natAbs ≤ 2 ^ 200, ok⟩ G2 ⟨⟨hs, hst, fun b hb c hc => ?_, fun b hb => ?_, hsub2⟩, ⟨fun b hb c hc => ?_, fun b hb => ?_⟩, filter_sub hsub hst.2.2.1⟩ rfl (by show ((st.length : Nat) : Int) ≤ m; omega) (Ex.freeP p1 m1.ex nq) m2.ex m2.pool ⟨po, ss, es, D, kt, ke, h2, m2.po, h4, fun b hb c hc => ?_, h7, fun b hb => ?_, e2.get0 h1⟩
    · obtain ⟨p, _, _, z, _⟩ := cT b c hb hc
      exact z
    · obtain ⟨p, _, _, z, _⟩ := cE b hb
      exact z
    · obtain ⟨p, _, _, _, z⟩ := cT b c hb hc
      exact z
    · obtain ⟨p, _, _, _, z⟩ := cE b hb
      exact z
    · obtain ⟨p, z1, z2, _, _⟩ := cT b c hb hc
      exact ⟨p, z1, z2⟩
    · obtain ⟨p, z1, z2, _, _⟩ := cE b hb
      exact ⟨p, z1, z2⟩
end
end WB
namespace WB
open PySem PySem.Spec PyProof.Rows L2
local macro_rules | `(tactic| walk_at "lit") => `(tactic| first | exact lit_abc | exact lit_empty)
local macro_rules | `(tactic| walk_at "nm") => `(tactic| focus first | exact List.not_mem_nil | (simp only [List.mem_singleton]; first | assumption | (exact Ne.symm (by assumption)) | (intro hz; subst hz; simp_all; done)))
local macro_rules | `(tactic| walk_at "hp") => `(tactic| first | assumption | (apply Ex.get0 (by assumption); walk_at "hp") | (apply Ex.get (by assumption); (walk_at "nm"); (walk_at "hp")))
local macro_rules | `(tactic| walk_at "sq") => `(tactic| first | assumption | (apply SqL.of; walk_at "hp") | (apply Ex.sqL (by assumption); (walk_at "nm"); (walk_at "sq")))
local macro_rules | `(tactic| walk_at "sqt") => `(tactic| first | assumption | (apply SqT.of; walk_at "hp") | (apply Ex.sqT (by assumption); (walk_at "nm"); (walk_at "sqt")))
local macro_rules | `(tactic| walk_at "sz") => `(tactic| focus ((with_reducible refine Nat.le_trans (m := 100000) ?_ (by decide)); first | omega | (simp; done) | (simp; omega)))
local macro_rules | `(tactic| walk_at "mul") => `(tactic| first | exact Or.inr ⟨by omega, by omega⟩ | exact Or.inl ⟨by omega, by omega⟩)
local macro_rules | `(tactic| walk_at "pool") => `(tactic| first | assumption | (apply PoolAt.ex (by assumption); (walk_at "nm"); (walk_at "pool")))
local macro_rules | `(tactic| walk_at "ring") => `(tactic| first | assumption | (apply RingAt.ex (by assumption); (walk_at "nm"); (walk_at "ring")))
local macro_rules | `(tactic| walk_at "st") => `(tactic| first
  | with_reducible refine s_seq ?_
  | with_reducible refine s_asg ?_
  | with_reducible refine s_gName ?_
  | with_reducible refine s_ret ?_
  | with_reducible refine s_ifS ?_
  | with_reducible refine s_next ?_
  | with_reducible refine s_op ?_
  | ((with_reducible apply s_var); exact rfl)
  | ((with_reducible apply s_cS); (walk_at "lit"))
  | with_reducible refine s_c ?_
  | with_reducible refine s_cb ?_
  | with_reducible refine s_cons ?_
  | with_reducible refine s_nil ?_
  | with_reducible refine s_un ?_
  | with_reducible refine s_call ?_
  | with_reducible refine s_test ?_
  | with_reducible refine s_tB ?_
  | with_reducible refine s_blQ ?_
  | with_reducible refine s_not ?_
  | with_reducible refine s_and ?_
  | with_reducible refine s_or ?_
  | with_reducible refine s_andV ?_
  | with_reducible refine s_orV ?_
  | with_reducible refine s_notV ?_
  | with_reducible refine s_ifE ?_
  | with_reducible refine s_chain ?_
  | ((with_reducible refine s_T ?_ ?_); (with_reducible exact rfl))
  | with_reducible refine s_nT ?_
  | with_reducible refine s_nF ?_
  | ((with_reducible refine s_F ?_ ?_); (with_reducible exact rfl))
  | ((with_reducible refine s_T ?_ ?_); assumption)
  | ((with_reducible refine s_F ?_ ?_); assumption)
  | ((with_reducible refine s_nB ?_ ?_); assumption)
  | ((with_reducible refine s_nA ?_ ?_); assumption)
  | ((with_reducible refine s_Td ?_ ?_); omega)
  | ((with_reducible refine s_Fd ?_ ?_); omega)
  | ((with_reducible refine s_nTd ?_ ?_); omega)
  | ((with_reducible refine s_nFd ?_ ?_); omega)
  | with_reducible refine s_sfld ?_
  | with_reducible refine s_addI ?_
  | with_reducible refine s_subI ?_
  | ((with_reducible refine s_mulI ?_ ?_); (walk_at "mul"))
  | ((with_reducible refine s_divI ?_ ?_); exact ⟨by omega, by omega⟩)
  | ((with_reducible refine s_modI ?_ ?_); omega)
  | ((with_reducible refine s_powI ?_ ?_); exact ⟨by decide, by decide, by decide⟩)
  | with_reducible refine s_ltI ?_
  | with_reducible refine s_leI ?_
  | with_reducible refine s_gtI ?_
  | with_reducible refine s_geI ?_
  | with_reducible refine s_negI ?_
  | with_reducible refine s_absI ?_
  | with_reducible refine s_intI ?_
  | with_reducible refine s_min2 ?_
  | with_reducible refine s_max2 ?_
  | with_reducible refine s_eqI ?_
  | with_reducible refine s_neI ?_
  | with_reducible refine s_eqS ?_
  | with_reducible refine s_neS ?_
  | with_reducible refine s_inSg ?_
  | with_reducible refine s_notInSg ?_
  | ((with_reducible refine s_addS ?_ ?_); (walk_at "sz"))
  | ((with_reducible refine s_lenS ?_ ?_); (walk_at "sz"))
  | ((with_reducible apply s_lenL); (walk_at "sq"))
  | ((with_reducible apply s_lenT); (walk_at "sqt"))
  | ((with_reducible apply s_ixL); (walk_at "sq"); exact rfl)
  | ((with_reducible apply s_ixT); (walk_at "sqt"); exact rfl)
  | with_reducible refine s_gSub ?_
  | ((with_reducible apply s_setL); (walk_at "hp"); (exact rfl); (intro _ _ _))
  | ((with_reducible refine s_alloc ?_ ?_); (walk_at "sz"); (intro _ _ _ _ _))
  | ((with_reducible refine s_divmod ?_ ?_); (exact ⟨by omega, PyProof.noPylong_small (by omega)⟩); (intro _ _ _ _ _))
  | ((with_reducible apply s_gTup); (walk_at "sqt"); (exact rfl))
  | ((with_reducible apply s_gLst); (walk_at "sq"); (exact rfl))
  | with_reducible refine s_gCons ?_
  | with_reducible refine s_gNil ?_
  | with_reducible refine s_lc ?_
  | ((with_reducible apply s_cat); (walk_at "hp"); (walk_at "hp"); (walk_at "sz"); (intro _ _ _ _ _))
  | ((with_reducible apply s_slL); (walk_at "sq"); (intro _ _ _ _ _))
  | with_reducible refine s_for ?_
  | with_reducible refine s_rng1 ?_
  | ((with_reducible refine s_rng1i ?_ ?_); (constructor <;> omega))
  | with_reducible refine s_rng2 ?_
  | ((with_reducible refine s_rng2i ?_ ?_); (refine ⟨?_, ?_, ?_, ?_⟩ <;> omega))
  | with_reducible refine s_iStr ?_
  | with_reducible refine s_iStrS ?_
  | with_reducible refine s_iList ?_
  | ((with_reducible apply s_iListA); (walk_at "sq"))
  | with_reducible refine s_iTup ?_
  | ((with_reducible apply s_iTupA); (walk_at "sqt"))
  | with_reducible refine s_sl ?_
  | with_reducible refine s_noPart ?_
  | with_reducible refine s_part ?_
  | with_reducible refine s_int1 ?_
  | ((with_reducible refine s_slS ?_ ?_); (walk_at "sz"))
  | with_reducible refine s_tup ?_
  | with_reducible refine s_lst ?_
  | with_reducible refine s_par ?_
  | with_reducible refine s_pair ?_
  | with_reducible refine s_M1 ?_
  | with_reducible refine s_isStr ?_
  | with_reducible refine s_revS ?_
  | ((with_reducible refine s_revS1 ?_ ?_); (walk_at "sz"))
  | with_reducible refine s_fldE ?_
  | with_reducible refine s_propE ?_
  | ((with_reducible refine u_draw ?_ ?_ ?_ ?_); omega; omega; (walk_at "pool"); (intro _ _ _ _ _ _))
  | ((with_reducible refine u_pool ?_); (intro _ _ _ _ _))
  | with_reducible refine u_is_integer ?_
  | with_reducible refine s_isiII ?_
  | with_reducible refine s_isiIB ?_
  | with_reducible refine s_isiSS ?_
  | ((with_reducible apply u_fldRing); assumption; (walk_at "ring"))
  | ((with_reducible apply u_textP); (walk_at "ring"))
  | ((with_reducible apply u_strRing); (walk_at "ring"))
  | ((with_reducible apply u_eqRing); (walk_at "ring"); (walk_at "ring"))
  | ((with_reducible apply u_isiRing); assumption; (walk_at "ring"))
  | ((with_reducible refine u_is_word ?_ ?_); omega; (intro _ _))
  | ((with_reducible refine u_turnings ?_ ?_); omega; (intro _ _ _ _ _))
  | with_reducible refine s_makeE ?_
  | with_reducible refine s_methE ?_)
local macro_rules | `(tactic| walk_at "go") => `(tactic| repeat (walk_at "st"))
local macro_rules | `(tactic| walk_at "exs") => `(tactic| first | exact Ex.rfl | assumption | (apply Ex.snoc (by assumption); walk_at "exs") | (apply Ex.snocW (by assumption); walk_at "exs"))
local macro_rules | `(tactic| walk_at "kind") => `(tactic| first | assumption | (apply KindAt.ex0 (by assumption); (walk_at "kind")) | (apply KindAt.exP (by assumption) (by assumption); (walk_at "kind")))
local macro_rules | `(tactic| walk_at "st") => `(tactic| first
  | with_reducible refine s_lenSet ?_
  | with_reducible refine s_drop ?_
  | with_reducible refine s_bm ?_
  | with_reducible refine s_notN ?_
  | with_reducible refine s_isN ?_
  | ((with_reducible apply s_tyL); (walk_at "hp"))
  | with_reducible refine s_enumT ?_
  | ((with_reducible apply s_enumTA); (walk_at "sqt"))
  | with_reducible refine s_lc2 ?_)
local macro_rules | `(tactic| walk_at "lit") => `(tactic| exact lit_MRK)
local macro_rules | `(tactic| walk_at "st") => `(tactic| first
  | with_reducible refine s_dcT ?_
  | with_reducible refine s_dc ?_)
local macro_rules | `(tactic| walk_at "lit") => `(tactic| exact lit_z)
end WB
namespace WB
open PySem PySem.Spec PyProof.Rows L2
section
variable {K : PySem.W.Frag} {H H' : Hp} {Q : VK} {E : XK} {a p q x : Addr} {M : LM} {σ : St}
/-! ### data -/
theorem Dd.dp : ∀ (n : Nat) (v : V) (d : PyData), Dd K H n v d → Dp K H v d
  | 0, _, _, h => Scal.dp h
  | n + 1, v, d, h => by
    rcases h with h | ⟨a, xs, ds, rfl, rfl, h1, hn, hl, h2⟩ | ⟨a, xs, ds, rfl, rfl, h1, hn, hl, h2⟩
    · exact Scal.dp h
    · exact .tup h1 (dpAll_of xs ds hl fun i x e hx he => Dd.dp n x e (h2 i x e hx he))
    · exact .lst (SqL.of h1) (dpAll_of xs ds hl fun i x e hx he => Dd.dp n x e (h2 i x e hx he))
theorem Dd.shape : ∀ (n : Nat) (v : V) (d : PyData), Dd K H n v d → PyData.canLay0 d = true ∧ PyData.depth d ≤ n
  | 0, v, d, h => by
    obtain ⟨h1, h2⟩ := scal_shape h
    exact ⟨h1, by omega⟩
  | n + 1, v, d, h => by
    have parts : ∀ (xs : List V) (ds : List PyData), ds.length = xs.length → (∀ (i : Nat) x e, xs[i]? = some x → ds[i]? = some e → Dd K H n x e) → ∀ e ∈ ds, PyData.canLay0 e = true ∧ PyData.depth e ≤ n := fun xs ds hl h e he => by
      obtain ⟨i, hi⟩ := mem_get he
      have hlt : i < xs.length := by
        have := (List.getElem?_eq_some_iff.mp hi).1
        omega
      exact Dd.shape n xs[i] e (h i xs[i] e (List.getElem?_eq_getElem hlt) hi)
    rcases h with h | ⟨a, xs, ds, rfl, rfl, h1, hn, hl, h2⟩ | ⟨a, xs, ds, rfl, rfl, h1, hn, hl, h2⟩
    · obtain ⟨h1, h2⟩ := scal_shape h
      exact ⟨h1, by omega⟩
    · have pp := parts xs ds hl h2
      refine ⟨by rw [PyData.canLay0]; exact lay_all fun e he => (pp e he).1, ?_⟩
      rw [PyData.depth]
      have := dep_all (m := n) fun e he => (pp e he).2
      omega
    · have pp := parts xs ds hl h2
      refine ⟨by rw [PyData.canLay0]; exact lay_all fun e he => (pp e he).1, ?_⟩
      rw [PyData.depth]
      have := dep_all (m := n) fun e he => (pp e he).2
      omega
theorem Dd.shaped {n : Nat} {v : V} {d : PyData} (hn : n ≤ 20) (h : Dd K H n v d) : SeqAt.shaped d = true := by
  obtain ⟨h1, h2⟩ := Dd.shape n v d h
  unfold SeqAt.shaped
  exact Bool.and_eq_true_iff.mpr ⟨h1, decide_eq_true (by omega)⟩
theorem s_neDd {n m : Nat} {u v : V} {d : PyData} (hn : n ≤ 20) (h1 : Dd K H n u d) (h2 : Dd K H m v d) (k : Q (.bl false) H) : rNeD K u v H Q := by
  have hs := Dd.shaped hn h1
  refine ⟨_, _, Dd.dp n u _ h1, Dd.dp m v _ h2, hs, hs, ?_⟩
  rw [SeqAt.eqv_refl _ (Bool.and_eq_true_iff.mp hs).1]
  exact k
theorem Fr.ex0 {F : Addr → Prop} {n : Nat} {v : V} {d : PyData} (e : Ex [] H H') (h : Fr F H n v d) : Fr F H' n v d := Fr.mono (fun _ h => h) (fun _ _ _ h => e.get0 h) _ _ _ h
/-- what a value without parts tells -/
def scD : V → PyData
  | .bl b => .bool b
  | .int i => .int i
  | .str s => .str s
  | _ => .none
theorem sc_int (i : Int) : Scal (.int i) (scD (.int i)) := .inr (.inr (.inl ⟨i, rfl, rfl⟩))
theorem sc_S {l : List Nat} (h : plain l) : Scal (vS l) (scD (vS l)) := .inr (.inr (.inr ⟨l, h, rfl, rfl⟩))
theorem dd_scal {n : Nat} {v : V} {d : PyData} (h : Scal v d) : Dd K H n v d := by
  cases n with
  | zero => exact h
  | succ n => exact .inl h
theorem dd_tup1 {n : Nat} {l : List V} (h : SqT K H p l) (hl : l.length ≤ 1000) (hs : ∀ v ∈ l, Scal v (scD v)) : Dd K H (n + 1) (.ref p) (.tuple (l.map scD)) := by
  refine .inr (.inl ⟨p, l, _, rfl, rfl, h, hl, by simp, fun i y e h1 h2 => ?_⟩)
  rw [List.getElem?_map, h1] at h2
  cases h2
  exact dd_scal (hs y (List.mem_of_getElem? h1))
theorem dd_tups {n : Nat} {ls : List (List V)} (h : TupsAt K H p ls) (hl : ls.length ≤ 1000) (hs : ∀ l ∈ ls, l.length ≤ 1000 ∧ ∀ v ∈ l, Scal v (scD v)) : Dd K H (n + 2) (.ref p) (.tuple (ls.map fun l => .tuple (l.map scD))) := by
  obtain ⟨xs, h1, h2, h3⟩ := h
  refine .inr (.inl ⟨p, xs, _, rfl, rfl, h1, by omega, by simp [h2], fun i y e z1 z2 => ?_⟩)
  rw [List.getElem?_map] at z2
  obtain ⟨l, z3, rfl⟩ := Option.map_eq_some_iff.mp z2
  obtain ⟨r, rfl, z4⟩ := h3 i y l z1 z3
  have := hs l (List.mem_of_getElem? z3)
  exact dd_tup1 z4 this.1 this.2
theorem dd_strs {n : Nat} {ls : List (List Nat)} (h : SqT K H p (ls.map vS)) (hl : ls.length ≤ 1000) (hs : ∀ l ∈ ls, plain l) : Dd K H (n + 1) (.ref p) (.tuple ((ls.map vS).map scD)) :=
  dd_tup1 h (by simpa using hl) fun v hv => by
    obtain ⟨l, hl, rfl⟩ := List.mem_map.mp hv
    exact sc_S (hs l hl)
theorem plain_ab {s : List Nat} (h : goodS s) : plain s := fun c hc => let_plain (isWord_in h.1 c hc)
theorem plain_in {s : List Nat} {c : Nat} (h : goodS s) (hc : c ∈ s) : plain [c] := fun d hd => by rw [List.mem_singleton.mp hd]; exact plain_ab h c hc
theorem plain_st (g : GoodM M) {b : List Nat} (h : b ∈ M.st) : plain b := name_plain (g.st.2.2.2 b h)
def lrowD (M : LM) : PyData := .tuple [scD (vS M.ab), .tuple ((M.st.map vS).map scD), .tuple (((rwsOf M).map rwV).map fun l => .tuple (l.map scD)), .tuple (((tnsOf M).map tnV).map fun l => .tuple (l.map scD)), .tuple ((M.ok.map vS).map scD)]
theorem dd_row {n : Nat} (g : GoodM M) (hok : M.ok.length ≤ 1000) (h : LRowAt K H p M) : Dd K H (n + 3) (.ref p) (lrowD M) := by
  obtain ⟨o, r, t, y, h1, h2, h3, h4, h5⟩ := h
  have l6 := g.st.2.1
  have l4 := g.ab.2.1
  have d1 : Dd K H (n + 2) (vS M.ab) (scD (vS M.ab)) := dd_scal (sc_S (plain_ab g.ab))
  have d2 : Dd K H (n + 2) (.ref o) (.tuple ((M.st.map vS).map scD)) := dd_strs h2 (by omega) fun l hl => plain_st g hl
  have d3 : Dd K H (n + 2) (.ref r) (.tuple (((rwsOf M).map rwV).map fun l => .tuple (l.map scD))) := dd_tups h3 (by
      rw [List.length_map, rwsOf, rws_len]
      exact Nat.le_trans (Nat.mul_le_mul l4 l6) (by decide)) fun l hl => by
    obtain ⟨rw, hr, rfl⟩ := List.mem_map.mp hl
    obtain ⟨m1, m2, m3⟩ := mem_rws hr
    have m4 := g.tb _ m1 _ m2
    rw [m3] at m4
    refine ⟨by simp [rwV], fun v hv => ?_⟩
    simp only [rwV, List.mem_cons, List.not_mem_nil, or_false] at hv
    rcases hv with rfl | rfl | rfl | rfl
    · exact sc_S (plain_st g m1)
    · exact sc_S (plain_in g.ab m2)
    · exact sc_S (plain_st g m4)
    · exact sc_int _
  have d4 : Dd K H (n + 2) (.ref t) (.tuple (((tnsOf M).map tnV).map fun l => .tuple (l.map scD))) := dd_tups h4 (by
      rw [List.length_map, tnsOf, List.length_map]
      omega) fun l hl => by
    obtain ⟨tn, hr, rfl⟩ := List.mem_map.mp hl
    obtain ⟨b, hb, rfl⟩ := List.mem_map.mp hr
    refine ⟨by simp [tnV], fun v hv => ?_⟩
    simp only [tnV, List.mem_cons, List.not_mem_nil, or_false] at hv
    rcases hv with rfl | rfl | rfl
    · exact sc_S (plain_st g hb)
    · exact sc_S (plain_st g (g.en b hb))
    · exact sc_int _
  have d5 : Dd K H (n + 2) (.ref y) (.tuple ((M.ok.map vS).map scD)) := dd_strs h5 hok fun l hl => plain_st g (g.ok l hl)
  refine .inr (.inl ⟨p, _, _, rfl, rfl, h1, by simp, by simp, fun i y e z1 z2 => ?_⟩)
  match i, z1, z2 with
  | 0, z1, z2 => cases z1; cases z2; exact d1
  | 1, z1, z2 => cases z1; cases z2; exact d2
  | 2, z1, z2 => cases z1; cases z2; exact d3
  | 3, z1, z2 => cases z1; cases z2; exact d4
  | 4, z1, z2 => cases z1; cases z2; exact d5
  | i + 5, z1, z2 => cases z1
theorem TupsAt.take {ls : List (List V)} {i : Nat} {xs : List V} (h2 : Tups K H xs ls) (h : SqT K H q (xs.take i)) : TupsAt K H q (ls.take i) := by
  refine ⟨_, h, by simp [h2.1], fun j y l h3 h4 => ?_⟩
  by_cases hj : j < i
  · rw [List.getElem?_take_of_lt hj] at h3 h4
    exact h2.2 j y l h3 h4
  · rw [List.getElem?_take_eq_none (by omega)] at h3
    cases h3
/-! ### instances called -/
/-! ### comprehensions over lists of any values -/
/-! ### the loop's own calls -/
theorem u_lrow (hx : LoopAt K H x M) (g : GoodM M) (k : ∀ p H', Ex [] H H' → LRowAt K H' p M → Q (.ref p) H') : PropG (He.ga K "Loop") (sp_Loop_row K) [] E (.ref x) H Q := u_propLoop hx ⟨x, rfl, M, hx, g, k⟩
end
end WB
namespace WB
open PySem PySem.Spec PyProof.Rows L2
local macro_rules | `(tactic| walk_at "lit") => `(tactic| first | exact lit_abc | exact lit_empty)
local macro_rules | `(tactic| walk_at "nm") => `(tactic| focus first | exact List.not_mem_nil | (simp only [List.mem_singleton]; first | assumption | (exact Ne.symm (by assumption)) | (intro hz; subst hz; simp_all; done)))
local macro_rules | `(tactic| walk_at "hp") => `(tactic| first | assumption | (apply Ex.get0 (by assumption); walk_at "hp") | (apply Ex.get (by assumption); (walk_at "nm"); (walk_at "hp")))
local macro_rules | `(tactic| walk_at "sq") => `(tactic| first | assumption | (apply SqL.of; walk_at "hp") | (apply Ex.sqL (by assumption); (walk_at "nm"); (walk_at "sq")))
local macro_rules | `(tactic| walk_at "sqt") => `(tactic| first | assumption | (apply SqT.of; walk_at "hp") | (apply Ex.sqT (by assumption); (walk_at "nm"); (walk_at "sqt")))
local macro_rules | `(tactic| walk_at "sz") => `(tactic| focus ((with_reducible refine Nat.le_trans (m := 100000) ?_ (by decide)); first | omega | (simp; done) | (simp; omega)))
local macro_rules | `(tactic| walk_at "mul") => `(tactic| first | exact Or.inr ⟨by omega, by omega⟩ | exact Or.inl ⟨by omega, by omega⟩)
local macro_rules | `(tactic| walk_at "pool") => `(tactic| first | assumption | (apply PoolAt.ex (by assumption); (walk_at "nm"); (walk_at "pool")))
local macro_rules | `(tactic| walk_at "ring") => `(tactic| first | assumption | (apply RingAt.ex (by assumption); (walk_at "nm"); (walk_at "ring")))
local macro_rules | `(tactic| walk_at "st") => `(tactic| first
  | with_reducible refine s_seq ?_
  | with_reducible refine s_asg ?_
  | with_reducible refine s_gName ?_
  | with_reducible refine s_ret ?_
  | with_reducible refine s_ifS ?_
  | with_reducible refine s_next ?_
  | with_reducible refine s_op ?_
  | ((with_reducible apply s_var); exact rfl)
  | ((with_reducible apply s_cS); (walk_at "lit"))
  | with_reducible refine s_c ?_
  | with_reducible refine s_cb ?_
  | with_reducible refine s_cons ?_
  | with_reducible refine s_nil ?_
  | with_reducible refine s_un ?_
  | with_reducible refine s_call ?_
  | with_reducible refine s_test ?_
  | with_reducible refine s_tB ?_
  | with_reducible refine s_blQ ?_
  | with_reducible refine s_not ?_
  | with_reducible refine s_and ?_
  | with_reducible refine s_or ?_
  | with_reducible refine s_andV ?_
  | with_reducible refine s_orV ?_
  | with_reducible refine s_notV ?_
  | with_reducible refine s_ifE ?_
  | with_reducible refine s_chain ?_
  | ((with_reducible refine s_T ?_ ?_); (with_reducible exact rfl))
  | with_reducible refine s_nT ?_
  | with_reducible refine s_nF ?_
  | ((with_reducible refine s_F ?_ ?_); (with_reducible exact rfl))
  | ((with_reducible refine s_T ?_ ?_); assumption)
  | ((with_reducible refine s_F ?_ ?_); assumption)
  | ((with_reducible refine s_nB ?_ ?_); assumption)
  | ((with_reducible refine s_nA ?_ ?_); assumption)
  | ((with_reducible refine s_Td ?_ ?_); omega)
  | ((with_reducible refine s_Fd ?_ ?_); omega)
  | ((with_reducible refine s_nTd ?_ ?_); omega)
  | ((with_reducible refine s_nFd ?_ ?_); omega)
  | with_reducible refine s_sfld ?_
  | with_reducible refine s_addI ?_
  | with_reducible refine s_subI ?_
  | ((with_reducible refine s_mulI ?_ ?_); (walk_at "mul"))
  | ((with_reducible refine s_divI ?_ ?_); exact ⟨by omega, by omega⟩)
  | ((with_reducible refine s_modI ?_ ?_); omega)
  | ((with_reducible refine s_powI ?_ ?_); exact ⟨by decide, by decide, by decide⟩)
  | with_reducible refine s_ltI ?_
  | with_reducible refine s_leI ?_
  | with_reducible refine s_gtI ?_
  | with_reducible refine s_geI ?_
  | with_reducible refine s_negI ?_
  | with_reducible refine s_absI ?_
  | with_reducible refine s_intI ?_
  | with_reducible refine s_min2 ?_
  | with_reducible refine s_max2 ?_
  | with_reducible refine s_eqI ?_
  | with_reducible refine s_neI ?_
  | with_reducible refine s_eqS ?_
  | with_reducible refine s_neS ?_
  | with_reducible refine s_inSg ?_
  | with_reducible refine s_notInSg ?_
  | ((with_reducible refine s_addS ?_ ?_); (walk_at "sz"))
  | ((with_reducible refine s_lenS ?_ ?_); (walk_at "sz"))
  | ((with_reducible apply s_lenL); (walk_at "sq"))
  | ((with_reducible apply s_lenT); (walk_at "sqt"))
  | ((with_reducible apply s_ixL); (walk_at "sq"); exact rfl)
  | ((with_reducible apply s_ixT); (walk_at "sqt"); exact rfl)
  | with_reducible refine s_gSub ?_
  | ((with_reducible apply s_setL); (walk_at "hp"); (exact rfl); (intro _ _ _))
  | ((with_reducible refine s_alloc ?_ ?_); (walk_at "sz"); (intro _ _ _ _ _))
  | ((with_reducible refine s_divmod ?_ ?_); (exact ⟨by omega, PyProof.noPylong_small (by omega)⟩); (intro _ _ _ _ _))
  | ((with_reducible apply s_gTup); (walk_at "sqt"); (exact rfl))
  | ((with_reducible apply s_gLst); (walk_at "sq"); (exact rfl))
  | with_reducible refine s_gCons ?_
  | with_reducible refine s_gNil ?_
  | with_reducible refine s_lc ?_
  | ((with_reducible apply s_cat); (walk_at "hp"); (walk_at "hp"); (walk_at "sz"); (intro _ _ _ _ _))
  | ((with_reducible apply s_slL); (walk_at "sq"); (intro _ _ _ _ _))
  | with_reducible refine s_for ?_
  | with_reducible refine s_rng1 ?_
  | ((with_reducible refine s_rng1i ?_ ?_); (constructor <;> omega))
  | with_reducible refine s_rng2 ?_
  | ((with_reducible refine s_rng2i ?_ ?_); (refine ⟨?_, ?_, ?_, ?_⟩ <;> omega))
  | with_reducible refine s_iStr ?_
  | with_reducible refine s_iStrS ?_
  | with_reducible refine s_iList ?_
  | ((with_reducible apply s_iListA); (walk_at "sq"))
  | with_reducible refine s_iTup ?_
  | ((with_reducible apply s_iTupA); (walk_at "sqt"))
  | with_reducible refine s_sl ?_
  | with_reducible refine s_noPart ?_
  | with_reducible refine s_part ?_
  | with_reducible refine s_int1 ?_
  | ((with_reducible refine s_slS ?_ ?_); (walk_at "sz"))
  | with_reducible refine s_tup ?_
  | with_reducible refine s_lst ?_
  | with_reducible refine s_par ?_
  | with_reducible refine s_pair ?_
  | with_reducible refine s_M1 ?_
  | with_reducible refine s_isStr ?_
  | with_reducible refine s_revS ?_
  | ((with_reducible refine s_revS1 ?_ ?_); (walk_at "sz"))
  | with_reducible refine s_fldE ?_
  | with_reducible refine s_propE ?_
  | ((with_reducible refine u_draw ?_ ?_ ?_ ?_); omega; omega; (walk_at "pool"); (intro _ _ _ _ _ _))
  | ((with_reducible refine u_pool ?_); (intro _ _ _ _ _))
  | with_reducible refine u_is_integer ?_
  | with_reducible refine s_isiII ?_
  | with_reducible refine s_isiIB ?_
  | with_reducible refine s_isiSS ?_
  | ((with_reducible apply u_fldRing); assumption; (walk_at "ring"))
  | ((with_reducible apply u_textP); (walk_at "ring"))
  | ((with_reducible apply u_strRing); (walk_at "ring"))
  | ((with_reducible apply u_eqRing); (walk_at "ring"); (walk_at "ring"))
  | ((with_reducible apply u_isiRing); assumption; (walk_at "ring"))
  | ((with_reducible refine u_is_word ?_ ?_); omega; (intro _ _))
  | ((with_reducible refine u_turnings ?_ ?_); omega; (intro _ _ _ _ _))
  | with_reducible refine s_makeE ?_
  | with_reducible refine s_methE ?_)
local macro_rules | `(tactic| walk_at "go") => `(tactic| repeat (walk_at "st"))
local macro_rules | `(tactic| walk_at "exs") => `(tactic| first | exact Ex.rfl | assumption | (apply Ex.snoc (by assumption); walk_at "exs") | (apply Ex.snocW (by assumption); walk_at "exs"))
local macro_rules | `(tactic| walk_at "kind") => `(tactic| first | assumption | (apply KindAt.ex0 (by assumption); (walk_at "kind")) | (apply KindAt.exP (by assumption) (by assumption); (walk_at "kind")))
local macro_rules | `(tactic| walk_at "st") => `(tactic| first
  | with_reducible refine s_lenSet ?_
  | with_reducible refine s_drop ?_
  | with_reducible refine s_bm ?_
  | with_reducible refine s_notN ?_
  | with_reducible refine s_isN ?_
  | ((with_reducible apply s_tyL); (walk_at "hp"))
  | with_reducible refine s_enumT ?_
  | ((with_reducible apply s_enumTA); (walk_at "sqt"))
  | with_reducible refine s_lc2 ?_)
local macro_rules | `(tactic| walk_at "lit") => `(tactic| exact lit_MRK)
local macro_rules | `(tactic| walk_at "st") => `(tactic| first
  | with_reducible refine s_dcT ?_
  | with_reducible refine s_dc ?_)
local macro_rules | `(tactic| walk_at "lit") => `(tactic| exact lit_z)
end WB
namespace WB
open PySem PySem.Spec PyProof.Rows L2
/-- a change of a loop -/
inductive Chg where
  | row (a : List Nat) (c : Nat) (b : List Nat) (n : Int)
  | turn (a b : List Nat) (n : Int)
  | beg (a : List Nat)
def okC (M : LM) : Chg → Prop
  | .row a c b _ => a ∈ M.st ∧ c ∈ M.ab ∧ b ∈ M.st
  | .turn a b _ => a ∈ M.st ∧ b ∈ M.st
  | .beg a => a ∈ M.st
def begS (st : List (List Nat)) (a : List Nat) : List (List Nat) := a :: st.filter fun b => !decide (b = a)
def chM (M : LM) : Chg → LM
  | .row a c b n => { M with tb := fun a' c' => if a' = a ∧ c' = c then (b, n) else M.tb a' c' }
  | .turn a b n => { M with en := fun a' => if a' = a then (b, n) else M.en a' }
  | .beg a => { M with st := begS M.st a, ok := (begS M.st a).filter fun b => decide (b ∈ M.ok) }
/-- a loop as the program makes it -/
structure GL (M : LM) : Prop where
  g : GoodM M
  f : M.st.filter (fun a => decide (a ∈ M.ok)) = M.ok
  s : sgn M.ab = M.ab
theorem GM.gl {M : LM} (m : GM M) : GL (srtM M) := ⟨good_srt m.g, m.f, sgn_idem _⟩
theorem mem_begS {st : List (List Nat)} {a : List Nat} (ha : a ∈ st) {b : List Nat} : b ∈ begS st a ↔ b ∈ st := by
  unfold begS
  constructor
  · intro h
    rcases List.mem_cons.mp h with rfl | h
    · exact ha
    · exact (List.mem_filter.mp h).1
  · intro h
    by_cases e : b = a
    · subst e; exact List.mem_cons_self
    · exact List.mem_cons_of_mem _ (List.mem_filter.mpr ⟨h, by simp [e]⟩)
theorem nodup_begS {st : List (List Nat)} {a : List Nat} (h : st.Nodup) : (begS st a).Nodup := by
  unfold begS
  refine List.nodup_cons.mpr ⟨fun z => ?_, h.sublist List.filter_sublist⟩
  have := (List.mem_filter.mp z).2
  simp at this
theorem len_begS {st : List (List Nat)} {a : List Nat} (h : st.Nodup) (ha : a ∈ st) : (begS st a).length = st.length := by
  have h1 := nodup_le _ st (nodup_begS (a := a) h) fun b hb => (mem_begS ha).mp hb
  have h2 := nodup_le _ (begS st a) h fun b hb => (mem_begS ha).mpr hb
  omega
theorem good_ch {M : LM} (g : GoodM M) : ∀ {ch : Chg}, okC M ch → GoodM (chM M ch)
  | .row a c b n, ⟨h1, h2, h3⟩ => ⟨g.ab, g.st, fun a' ha c' hc => by
      show (if a' = a ∧ c' = c then (b, n) else M.tb a' c').1 ∈ M.st
      split
      · exact h3
      · exact g.tb a' ha c' hc, g.en, g.ok⟩
  | .turn a b n, ⟨h1, h2⟩ => ⟨g.ab, g.st, g.tb, fun a' ha => by
      show (if a' = a then (b, n) else M.en a').1 ∈ M.st
      split
      · exact h2
      · exact g.en a' ha, g.ok⟩
  | .beg a, h => by
    have h : a ∈ M.st := h
    have hm : ∀ {b}, b ∈ begS M.st a ↔ b ∈ M.st := mem_begS h
    refine ⟨g.ab, ⟨?_, ?_, nodup_begS g.st.2.2.1, fun b hb => g.st.2.2.2 b (hm.mp hb)⟩, fun a' ha c' hc => hm.mpr (g.tb a' (hm.mp ha) c' hc), fun a' ha => hm.mpr (g.en a' (hm.mp ha)), fun b hb => (List.mem_filter.mp hb).1⟩
    · show 1 ≤ (begS M.st a).length
      rw [len_begS g.st.2.2.1 h]; exact g.st.1
    · show (begS M.st a).length ≤ 6
      rw [len_begS g.st.2.2.1 h]; exact g.st.2.1
theorem gl_ch {M : LM} (m : GL M) : ∀ {ch : Chg}, okC M ch → GL (chM M ch)
  | .row a c b n, h => ⟨good_ch m.g h, m.f, m.s⟩
  | .turn a b n, h => ⟨good_ch m.g h, m.f, m.s⟩
  | .beg a, h => ⟨good_ch m.g h, by
      show (begS M.st a).filter (fun b => decide (b ∈ (begS M.st a).filter fun b => decide (b ∈ M.ok))) = _
      apply List.filter_congr
      intro b hb
      simp [List.mem_filter, hb], m.s⟩
/-- what makes a class's own instances known to isinstance -/
structure LoopI (K : PySem.W.Frag) : Prop where
  ty : ∀ (H : Hp) (a dx : Addr) (fs : List (Str × V)), H a = some (.ins (He.ga K "Loop") dx fs) → TyX K H (.ref a) (.ref (He.ga K "Loop"))
  me : PySem.W.kitOne K (.ref (He.ga K "Loop")) (.ref (He.ga K "Loop")) = some true
section
variable {K : PySem.W.Frag} {H H' : Hp} {Q : VK} {E : XK} {x y c : Addr} {M M' : LM} {ch : Chg}
theorem s_catB {a b : Addr} {xs ys : List V} (h1 : SqT K H a xs) (h2 : SqT K H b ys) (hl : xs.length + ys.length ≤ 1000) (k : ∀ p H2, Ex [] H H2 → SqT K H2 p (xs ++ ys) → Q (.ref p) H2) : rCatA K (.ref a) (.ref b) H Q :=
  ⟨a, b, xs, ys, rfl, rfl, h1, h2, Nat.le_trans hl (by decide), fun e => k b H Ex.rfl (by rw [e]; exact h2), fun _ e => k a H Ex.rfl (by rw [e, List.append_nil]; exact h1), fun _ _ p hp => k p _ (Ex.new hp) (SqT.of upd_same)⟩
def sp_Loop_signs (K : PySem.W.Frag) : Sp := fun vs H Q _ => ∃ x : Addr, vs = [.ref x] ∧ ∃ M : LM, LoopAt K H x M ∧ Q (vS M.ab) H
def sp_Loop_states (K : PySem.W.Frag) : Sp := fun vs H Q _ => ∃ x : Addr, vs = [.ref x] ∧ ∃ M : LM, LoopAt K H x M ∧ ∀ o, SqT K H o (M.st.map vS) → Q (.ref o) H
def sp_Loop_eq (K : PySem.W.Frag) : Sp := fun vs H Q _ => ∃ (x : Addr) (v : V), vs = [.ref x, v] ∧ ∃ M : LM, LoopAt K H x M ∧ GL M ∧ ((∃ (y : Addr) (M' : LM), v = .ref y ∧ LoopAt K H y M' ∧ GL M' ∧ ∀ H', Ex [] H H' → Q (.bl (PyData.eqv (lrowD M) (lrowD M'))) H') ∨ (∃ n, Kd K H v n ∧ PySem.W.kitOne K (.type n) (.ref (He.ga K "Loop")) = some false ∧ Q (.bl false) H))
theorem u_lsigns (hx : LoopAt K H x M) (k : Q (vS M.ab) H) : PropG (He.ga K "Loop") (sp_Loop_signs K) [] E (.ref x) H Q := u_propLoop hx ⟨x, rfl, M, hx, k⟩
theorem u_lstates (hx : LoopAt K H x M) (k : ∀ o, SqT K H o (M.st.map vS) → Q (.ref o) H) : PropG (He.ga K "Loop") (sp_Loop_states K) [] E (.ref x) H Q := u_propLoop hx ⟨x, rfl, M, hx, k⟩
theorem u_isiLoop (F : LoopI K) (hx : LoopAt K H x M) (k : Q (.bl true) H) : rIsi K [.ref x, .ref (He.ga K "Loop")] H Q := by
  obtain ⟨dx, o, tt, te, tm, kt, ke, h1, _⟩ := hx
  exact ⟨_, _, _, _, _, rfl, .own _, F.ty H x dx _ h1, F.me, k⟩
theorem ok_len {M : LM} (g : GL M) : M.ok.length ≤ 1000 := by
  rw [← g.f]
  have h6 := g.g.st.2.1
  exact Nat.le_trans (List.length_filter_le _ _) (by omega)
/-- a number or a plain text -/
def Pl (v : V) : Prop := (∃ i, v = .int i) ∨ ∃ l, plain l ∧ v = vS l
theorem Pl.sc {v : V} (h : Pl v) : Scal v (scD v) := by
  rcases h with ⟨i, rfl⟩ | ⟨l, h, rfl⟩
  · exact sc_int _
  · exact sc_S h
theorem pl_rows {M : LM} (g : GoodM M) : ∀ l ∈ (rwsOf M).map rwV, ∀ v ∈ l, Pl v := fun l hl => by
  obtain ⟨rw, hr, rfl⟩ := List.mem_map.mp hl
  obtain ⟨m1, m2, m3⟩ := mem_rws hr
  have m4 := g.tb _ m1 _ m2
  rw [m3] at m4
  intro v hv
  simp only [rwV, List.mem_cons, List.not_mem_nil, or_false] at hv
  rcases hv with rfl | rfl | rfl | rfl
  · exact .inr ⟨_, plain_st g m1, rfl⟩
  · exact .inr ⟨_, plain_in g.ab m2, rfl⟩
  · exact .inr ⟨_, plain_st g m4, rfl⟩
  · exact .inl ⟨_, rfl⟩
theorem pl_tns {M : LM} (g : GoodM M) : ∀ l ∈ (tnsOf M).map tnV, ∀ v ∈ l, Pl v := fun l hl => by
  obtain ⟨tn, hr, rfl⟩ := List.mem_map.mp hl
  obtain ⟨b, hb, rfl⟩ := List.mem_map.mp hr
  intro v hv
  simp only [tnV, List.mem_cons, List.not_mem_nil, or_false] at hv
  rcases hv with rfl | rfl | rfl
  · exact .inr ⟨_, plain_st g hb, rfl⟩
  · exact .inr ⟨_, plain_st g (g.en b hb), rfl⟩
  · exact .inl ⟨_, rfl⟩
theorem pl_strs {ls : List (List Nat)} (h : ∀ l ∈ ls, plain l) : ∀ v ∈ ls.map vS, Pl v := fun v hv => by
  obtain ⟨l, hl, rfl⟩ := List.mem_map.mp hv
  exact .inr ⟨l, h l hl, rfl⟩
theorem lay_tup {l : List V} (h : ∀ v ∈ l, Pl v) : PyData.canLay0 (.tuple (l.map scD)) = true := by
  rw [PyData.canLay0]
  refine lay_all fun e he => ?_
  obtain ⟨v, hv, rfl⟩ := List.mem_map.mp he
  exact (scal_shape (h v hv).sc).1
theorem lay_tups {ls : List (List V)} (h : ∀ l ∈ ls, ∀ v ∈ l, Pl v) : PyData.canLay0 (.tuple (ls.map fun l => .tuple (l.map scD))) = true := by
  rw [PyData.canLay0]
  refine lay_all fun e he => ?_
  obtain ⟨l, hl, rfl⟩ := List.mem_map.mp he
  exact lay_tup (h l hl)
theorem lrow_lay {M : LM} (g : GL M) : PyData.canLay0 (lrowD M) = true := by
  unfold lrowD
  rw [PyData.canLay0]
  refine lay_all fun e he => ?_
  simp only [List.mem_cons, List.not_mem_nil, or_false] at he
  rcases he with rfl | rfl | rfl | rfl | rfl
  · exact (scal_shape (sc_S (plain_ab g.g.ab))).1
  · exact lay_tup (pl_strs fun l hl => plain_st g.g hl)
  · exact lay_tups (pl_rows g.g)
  · exact lay_tups (pl_tns g.g)
  · exact lay_tup (pl_strs fun l hl => plain_st g.g (g.g.ok l hl))
theorem u_lEqB (hx : LoopAt K H x M) (g : GL M) (hy : LoopAt K H y M') (g' : GL M') (k : ∀ H', Ex [] H H' → Q (.bl (PyData.eqv (lrowD M) (lrowD M'))) H') : rEqO (He.ga K "Loop") (sp_Loop_eq K) E (.ref x) (.ref y) H Q := by
  obtain ⟨dx, o, tt, te, tm, kt, ke, h1, _⟩ := id hx
  obtain ⟨dx', o', tt', te', tm', kt', ke', h1', _⟩ := id hy
  exact ⟨x, dx, _, y, dx', _, rfl, rfl, h1, h1', x, _, rfl, M, hx, g, .inl ⟨y, M', rfl, hy, g', fun H' e => ⟨_, rfl, k H' e⟩⟩⟩
theorem u_lEq (hx : LoopAt K H x M) (g : GL M) (hy : LoopAt K H y M') (g' : GL M') (he : lrowD M = lrowD M') (k : ∀ H', Ex [] H H' → Q (.bl true) H') : rEqO (He.ga K "Loop") (sp_Loop_eq K) E (.ref x) (.ref y) H Q :=
  u_lEqB hx g hy g' fun H' e => by
    rw [← he, SeqAt.eqv_refl _ (lrow_lay g)]
    exact k H' e
theorem u_lNeB (F : LoopI K) (hx : LoopAt K H x M) (g : GL M) (hy : LoopAt K H y M') (g' : GL M') (k : ∀ H', Ex [] H H' → Q (.bl (!PyData.eqv (lrowD M) (lrowD M'))) H') : rNeA K (He.ga K "Loop") (sp_Loop_eq K) E (.ref x) (.ref y) H Q := by
  obtain ⟨dx, o, tt, te, tm, kt, ke, h1, _⟩ := id hx
  obtain ⟨dx', o', tt', te', tm', kt', ke', h1', _⟩ := id hy
  exact ⟨x, dx, _, _, rfl, h1, F.ty _ _ _ _ h1', notFirst_own, x, _, rfl, M, hx, g, .inl ⟨y, M', rfl, hy, g', fun H' e => ⟨_, rfl, k H' e⟩⟩⟩
theorem u_lEqN {v : V} {n : String} (hn : PySem.W.kitOne K (.type n) (.ref (He.ga K "Loop")) = some false) (hx : LoopAt K H x M) (g : GL M) (hk : Kd K H v n) (k : Q (.bl false) H) : rEqA K (He.ga K "Loop") (sp_Loop_eq K) E (.ref x) v H Q := by
  obtain ⟨dx, o, tt, te, tm, kt, ke, h1, _⟩ := id hx
  exact ⟨x, dx, _, _, rfl, h1, hk.1, notFirst_KD hk.2, x, _, rfl, M, hx, g, .inr ⟨n, hk, hn, _, rfl, k⟩⟩
theorem u_lNeN {v : V} {n : String} (hn : PySem.W.kitOne K (.type n) (.ref (He.ga K "Loop")) = some false) (hx : LoopAt K H x M) (g : GL M) (hk : Kd K H v n) (k : Q (.bl true) H) : rNeA K (He.ga K "Loop") (sp_Loop_eq K) E (.ref x) v H Q := by
  obtain ⟨dx, o, tt, te, tm, kt, ke, h1, _⟩ := id hx
  exact ⟨x, dx, _, _, rfl, h1, hk.1, notFirst_KD hk.2, x, _, rfl, M, hx, g, .inr ⟨n, hk, hn, _, rfl, k⟩⟩
end
end WB
namespace WB
open PySem PySem.Spec PyProof.Rows L2
theorem lit_114_111_119 : ("row" : Str) = S [114, 111, 119] := by decide +kernel
theorem lit_116_117_114_110 : ("turn" : Str) = S [116, 117, 114, 110] := by decide +kernel
theorem lit_98_101_103_105_110 : ("begin" : Str) = S [98, 101, 103, 105, 110] := by decide +kernel
local macro_rules | `(tactic| walk_at "lit") => `(tactic| first | exact lit_114_111_119 | exact lit_116_117_114_110 | exact lit_98_101_103_105_110)
local macro_rules | `(tactic| walk_at "lit") => `(tactic| first | exact lit_abc | exact lit_empty)
local macro_rules | `(tactic| walk_at "nm") => `(tactic| focus first | exact List.not_mem_nil | (simp only [List.mem_singleton]; first | assumption | (exact Ne.symm (by assumption)) | (intro hz; subst hz; simp_all; done)))
local macro_rules | `(tactic| walk_at "hp") => `(tactic| first | assumption | (apply Ex.get0 (by assumption); walk_at "hp") | (apply Ex.get (by assumption); (walk_at "nm"); (walk_at "hp")))
local macro_rules | `(tactic| walk_at "sq") => `(tactic| first | assumption | (apply SqL.of; walk_at "hp") | (apply Ex.sqL (by assumption); (walk_at "nm"); (walk_at "sq")))
local macro_rules | `(tactic| walk_at "sqt") => `(tactic| first | assumption | (apply SqT.of; walk_at "hp") | (apply Ex.sqT (by assumption); (walk_at "nm"); (walk_at "sqt")))
local macro_rules | `(tactic| walk_at "sz") => `(tactic| focus ((with_reducible refine Nat.le_trans (m := 100000) ?_ (by decide)); first | omega | (simp; done) | (simp; omega)))
local macro_rules | `(tactic| walk_at "mul") => `(tactic| first | exact Or.inr ⟨by omega, by omega⟩ | exact Or.inl ⟨by omega, by omega⟩)
local macro_rules | `(tactic| walk_at "pool") => `(tactic| first | assumption | (apply PoolAt.ex (by assumption); (walk_at "nm"); (walk_at "pool")))
local macro_rules | `(tactic| walk_at "ring") => `(tactic| first | assumption | (apply RingAt.ex (by assumption); (walk_at "nm"); (walk_at "ring")))
local macro_rules | `(tactic| walk_at "st") => `(tactic| first
  | with_reducible refine s_seq ?_
  | with_reducible refine s_asg ?_
  | with_reducible refine s_gName ?_
  | with_reducible refine s_ret ?_
  | with_reducible refine s_ifS ?_
  | with_reducible refine s_next ?_
  | with_reducible refine s_op ?_
  | ((with_reducible apply s_var); exact rfl)
  | ((with_reducible apply s_cS); (walk_at "lit"))
  | with_reducible refine s_c ?_
  | with_reducible refine s_cb ?_
  | with_reducible refine s_cons ?_
  | with_reducible refine s_nil ?_
  | with_reducible refine s_un ?_
  | with_reducible refine s_call ?_
  | with_reducible refine s_test ?_
  | with_reducible refine s_tB ?_
  | with_reducible refine s_blQ ?_
  | with_reducible refine s_not ?_
  | with_reducible refine s_and ?_
  | with_reducible refine s_or ?_
  | with_reducible refine s_andV ?_
  | with_reducible refine s_orV ?_
  | with_reducible refine s_notV ?_
  | with_reducible refine s_ifE ?_
  | with_reducible refine s_chain ?_
  | ((with_reducible refine s_T ?_ ?_); (with_reducible exact rfl))
  | with_reducible refine s_nT ?_
  | with_reducible refine s_nF ?_
  | ((with_reducible refine s_F ?_ ?_); (with_reducible exact rfl))
  | ((with_reducible refine s_T ?_ ?_); assumption)
  | ((with_reducible refine s_F ?_ ?_); assumption)
  | ((with_reducible refine s_nB ?_ ?_); assumption)
  | ((with_reducible refine s_nA ?_ ?_); assumption)
  | ((with_reducible refine s_Td ?_ ?_); omega)
  | ((with_reducible refine s_Fd ?_ ?_); omega)
  | ((with_reducible refine s_nTd ?_ ?_); omega)
  | ((with_reducible refine s_nFd ?_ ?_); omega)
  | with_reducible refine s_sfld ?_
  | with_reducible refine s_addI ?_
  | with_reducible refine s_subI ?_
  | ((with_reducible refine s_mulI ?_ ?_); (walk_at "mul"))
  | ((with_reducible refine s_divI ?_ ?_); exact ⟨by omega, by omega⟩)
  | ((with_reducible refine s_modI ?_ ?_); omega)
  | ((with_reducible refine s_powI ?_ ?_); exact ⟨by decide, by decide, by decide⟩)
  | with_reducible refine s_ltI ?_
  | with_reducible refine s_leI ?_
  | with_reducible refine s_gtI ?_
  | with_reducible refine s_geI ?_
  | with_reducible refine s_negI ?_
  | with_reducible refine s_absI ?_
  | with_reducible refine s_intI ?_
  | with_reducible refine s_min2 ?_
  | with_reducible refine s_max2 ?_
  | with_reducible refine s_eqI ?_
  | with_reducible refine s_neI ?_
  | with_reducible refine s_eqS ?_
  | with_reducible refine s_neS ?_
  | with_reducible refine s_inSg ?_
  | with_reducible refine s_notInSg ?_
  | ((with_reducible refine s_addS ?_ ?_); (walk_at "sz"))
  | ((with_reducible refine s_lenS ?_ ?_); (walk_at "sz"))
  | ((with_reducible apply s_lenL); (walk_at "sq"))
  | ((with_reducible apply s_lenT); (walk_at "sqt"))
  | ((with_reducible apply s_ixL); (walk_at "sq"); exact rfl)
  | ((with_reducible apply s_ixT); (walk_at "sqt"); exact rfl)
  | with_reducible refine s_gSub ?_
  | ((with_reducible apply s_setL); (walk_at "hp"); (exact rfl); (intro _ _ _))
  | ((with_reducible refine s_alloc ?_ ?_); (walk_at "sz"); (intro _ _ _ _ _))
  | ((with_reducible refine s_divmod ?_ ?_); (exact ⟨by omega, PyProof.noPylong_small (by omega)⟩); (intro _ _ _ _ _))
  | ((with_reducible apply s_gTup); (walk_at "sqt"); (exact rfl))
  | ((with_reducible apply s_gLst); (walk_at "sq"); (exact rfl))
  | with_reducible refine s_gCons ?_
  | with_reducible refine s_gNil ?_
  | with_reducible refine s_lc ?_
  | ((with_reducible apply s_cat); (walk_at "hp"); (walk_at "hp"); (walk_at "sz"); (intro _ _ _ _ _))
  | ((with_reducible apply s_slL); (walk_at "sq"); (intro _ _ _ _ _))
  | with_reducible refine s_for ?_
  | with_reducible refine s_rng1 ?_
  | ((with_reducible refine s_rng1i ?_ ?_); (constructor <;> omega))
  | with_reducible refine s_rng2 ?_
  | ((with_reducible refine s_rng2i ?_ ?_); (refine ⟨?_, ?_, ?_, ?_⟩ <;> omega))
  | with_reducible refine s_iStr ?_
  | with_reducible refine s_iStrS ?_
  | with_reducible refine s_iList ?_
  | ((with_reducible apply s_iListA); (walk_at "sq"))
  | with_reducible refine s_iTup ?_
  | ((with_reducible apply s_iTupA); (walk_at "sqt"))
  | with_reducible refine s_sl ?_
  | with_reducible refine s_noPart ?_
  | with_reducible refine s_part ?_
  | with_reducible refine s_int1 ?_
  | ((with_reducible refine s_slS ?_ ?_); (walk_at "sz"))
  | with_reducible refine s_tup ?_
  | with_reducible refine s_lst ?_
  | with_reducible refine s_par ?_
  | with_reducible refine s_pair ?_
  | with_reducible refine s_M1 ?_
  | with_reducible refine s_isStr ?_
  | with_reducible refine s_revS ?_
  | ((with_reducible refine s_revS1 ?_ ?_); (walk_at "sz"))
  | with_reducible refine s_fldE ?_
  | with_reducible refine s_propE ?_
  | ((with_reducible refine u_draw ?_ ?_ ?_ ?_); omega; omega; (walk_at "pool"); (intro _ _ _ _ _ _))
  | ((with_reducible refine u_pool ?_); (intro _ _ _ _ _))
  | with_reducible refine u_is_integer ?_
  | with_reducible refine s_isiII ?_
  | with_reducible refine s_isiIB ?_
  | with_reducible refine s_isiSS ?_
  | ((with_reducible apply u_fldRing); assumption; (walk_at "ring"))
  | ((with_reducible apply u_textP); (walk_at "ring"))
  | ((with_reducible apply u_strRing); (walk_at "ring"))
  | ((with_reducible apply u_eqRing); (walk_at "ring"); (walk_at "ring"))
  | ((with_reducible apply u_isiRing); assumption; (walk_at "ring"))
  | ((with_reducible refine u_is_word ?_ ?_); omega; (intro _ _))
  | ((with_reducible refine u_turnings ?_ ?_); omega; (intro _ _ _ _ _))
  | with_reducible refine s_makeE ?_
  | with_reducible refine s_methE ?_)
local macro_rules | `(tactic| walk_at "go") => `(tactic| repeat (walk_at "st"))
local macro_rules | `(tactic| walk_at "exs") => `(tactic| first | exact Ex.rfl | assumption | (apply Ex.snoc (by assumption); walk_at "exs") | (apply Ex.snocW (by assumption); walk_at "exs"))
local macro_rules | `(tactic| walk_at "kind") => `(tactic| first | assumption | (apply KindAt.ex0 (by assumption); (walk_at "kind")) | (apply KindAt.exP (by assumption) (by assumption); (walk_at "kind")))
local macro_rules | `(tactic| walk_at "st") => `(tactic| first
  | with_reducible refine s_lenSet ?_
  | with_reducible refine s_drop ?_
  | with_reducible refine s_bm ?_
  | with_reducible refine s_notN ?_
  | with_reducible refine s_isN ?_
  | ((with_reducible apply s_tyL); (walk_at "hp"))
  | with_reducible refine s_enumT ?_
  | ((with_reducible apply s_enumTA); (walk_at "sqt"))
  | with_reducible refine s_lc2 ?_)
local macro_rules | `(tactic| walk_at "lit") => `(tactic| exact lit_MRK)
local macro_rules | `(tactic| walk_at "st") => `(tactic| first
  | with_reducible refine s_dcT ?_
  | with_reducible refine s_dc ?_)
local macro_rules | `(tactic| walk_at "lit") => `(tactic| exact lit_z)
/-- Loop.signs: 0 self -/
def t_Loop_signs (K : PySem.W.Frag) : TS :=
  (tRet (tFld K (tVar 0) "letters"))
/-- Loop.states: 0 self -/
def t_Loop_states (K : PySem.W.Frag) : TS :=
  (tRet (tFld K (tVar 0) "order"))
/-- Loop.__eq__: 0 self 1 other -/
def t_Loop_eq (K : PySem.W.Frag) : TS :=
  (tRet (tAndV (tCB (rIsi K) (tCons (tVar 1) (tCons (tC (.ref (He.ga K "Loop"))) tNil))) (tOp (rEqD K) (tProp (He.ga K "Loop") (sp_Loop_row K) [] E0 (tVar 0)) (tProp (He.ga K "Loop") (sp_Loop_row K) [] E0 (tVar 1)))))
section
variable {K : PySem.W.Frag} {vs : List V} {H H' : Hp} {Q : VK} {E : XK} {x : Addr} {M : LM}
theorem pure_Loop_signs (F : LoopK K) (h : sp_Loop_signs K vs H Q E) : t_Loop_signs K (E1 Q) (start ["self"] vs) H := by
  obtain ⟨x, rfl, M, hx, k⟩ := h
  show t_Loop_signs K (E1 Q) [some (.ref x)] H
  unfold t_Loop_signs
  walk_at "go"
  exact u_fLetters F hx k
theorem pure_Loop_states (F : LoopK K) (h : sp_Loop_states K vs H Q E) : t_Loop_states K (E1 Q) (start ["self"] vs) H := by
  obtain ⟨x, rfl, M, hx, k⟩ := h
  show t_Loop_states K (E1 Q) [some (.ref x)] H
  unfold t_Loop_states
  walk_at "go"
  exact u_fOrder F hx k
theorem cut_tail {y : V} {xs : List V} : cutV (y :: xs) (some 1) none = xs := by rw [cutV_from (by decide)]; rfl
theorem u_lrows (hx : LoopAt K H x M) (g : GoodM M) (k : ∀ p H', Ex [] H H' → TupsAt K H' p ((rwsOf M).map rwV) → Q (.ref p) H') : PropG (He.ga K "Loop") (sp_Loop_rows K) [] E (.ref x) H Q := u_propLoop hx ⟨x, rfl, M, hx, g, k⟩
theorem u_lturns (hx : LoopAt K H x M) (g : GoodM M) (k : ∀ p H', Ex [] H H' → TupsAt K H' p ((tnsOf M).map tnV) → Q (.ref p) H') : PropG (He.ga K "Loop") (sp_Loop_turns K) [] E (.ref x) H Q := u_propLoop hx ⟨x, rfl, M, hx, g, k⟩
theorem rws_row {a b : List Nat} {c : Nat} {n : Int} : rwsOf (chM M (.row a c b n)) = (rwsOf M).map fun r => if r.a = a ∧ r.c = c then ⟨a, c, b, n⟩ else r := by
  unfold rwsOf
  rw [List.map_flatMap]
  show M.st.flatMap _ = M.st.flatMap _
  congr 1
  funext a'
  rw [List.map_map]
  apply List.map_congr_left
  intro c' _
  show (⟨a', c', (if a' = a ∧ c' = c then (b, n) else M.tb a' c').1, (if a' = a ∧ c' = c then (b, n) else M.tb a' c').2⟩ : Rw) = if a' = a ∧ c' = c then _ else _
  by_cases h : a' = a ∧ c' = c
  · rw [if_pos h, if_pos h, h.1, h.2]
  · rw [if_neg h, if_neg h]
theorem tns_turn {a b : List Nat} {n : Int} : tnsOf (chM M (.turn a b n)) = (tnsOf M).map fun t => if t.a = a then ⟨a, b, n⟩ else t := by
  unfold tnsOf
  rw [List.map_map]
  show M.st.map _ = M.st.map _
  apply List.map_congr_left
  intro a' _
  show (⟨a', (if a' = a then (b, n) else M.en a').1, (if a' = a then (b, n) else M.en a').2⟩ : Tn) = if a' = a then _ else _
  by_cases h : a' = a
  · rw [if_pos h, if_pos h, h]
  · rw [if_neg h, if_neg h]
theorem rws_len4 (g : GoodM M) : (rwsOf M).length ≤ 24 := by
  unfold rwsOf
  rw [rws_len]
  exact Nat.mul_le_mul g.ab.2.1 g.st.2.1
theorem pure_Loop_eq (F : LoopI K) (h : sp_Loop_eq K vs H Q E) : t_Loop_eq K (E1 Q) (start ["self", "other"] vs) H := by
  obtain ⟨x, v, rfl, M, hx, g, h⟩ := h
  show t_Loop_eq K (E1 Q) [some (.ref x), some v] H
  unfold t_Loop_eq
  walk_at "go"
  rcases h with ⟨y, M', rfl, hy, g', k⟩ | ⟨n, hn, hno, k⟩
  · refine u_isiLoop F hy ?_
    walk_at "go"
    refine u_lrow hx g.g fun p H1 e1 r1 => ?_
    walk_at "go"
    refine u_lrow (hy.ex0 e1) g'.g fun p2 H2 e2 r2 => ?_
    have d1 := dd_row (n := 0) g.g (ok_len g) (r1.ex0 e2)
    have d2 := dd_row (n := 0) g'.g (ok_len g') r2
    exact ⟨_, _, Dd.dp _ _ _ d1, Dd.dp _ _ _ d2, Dd.shaped (by decide) d1, Dd.shaped (by decide) d2, k _ (e1.trans e2)⟩
  · refine (show rIsi K [v, .ref (He.ga K "Loop")] H _ from ⟨_, _, _, _, _, rfl, .own _, hn.1, hno, ?_⟩)
    walk_at "go"
    exact k
end
end WB
/-! a class made by a local name, with keywords; list of a text or of a sequence -/
namespace WB
open PySem PySem.Spec PyProof.Rows L2 ClX
section
variable {X : Cx} {CX : CXT} {k n : Nat} {C fI : Addr} {fd : FuncData} {ps ks : List Str} {sp : Sp} {E : XK} {x : Str} {q1 pos : Pos} {e : Expr} {es : List Expr} {kws : List Keyword} {t tk : TA} {g : List Value → List Value → List Value} {gV : List V → List V → List V}
/-- x(e, .., k = v, ..), x a local name that holds the class at C -/
def tMakeLK (i : Nat) (C : Addr) (n m : Nat) (sp : Sp) (gV : List V → List V → List V) (E : XK) (t tk : TA) : TE := fun σ H Q => σ[i]? = some (some (.ref C)) ∧ tMakeK C n m sp gV E t tk σ H Q
theorem pe_makeLK {i : Nat} (M : Mk X.K C fI) (F : FnOk X.prog X.w X.K X.mg X.base CX k fI fd ps sp) (hr : Room (k + 1) X.A) (hN : X.N[i]? = some x) (hv : Vis X.env.scope x) (hb : KBn X.K fd ps (n + 1) ks g gV) (hx : Passes CX X E) (ha : PA X (e :: es) t) (hkw : PK X kws tk)
    (hall : (backToKw pos (keywordEach kws X.env)).all (·.1.isSome) = true := by rfl) (hks : (backToKw pos (keywordEach kws X.env)).filterMap (·.1) = ks := by rfl)
    (hdb : (x == ("__debug__" : Str)) = false := by decide) (hcd : (x == ("__classdict__" : Str)) = false := by decide)
    (he : starEach (e :: es) X.env = (false, eval e X.env) :: starEach es X.env := by rfl) (hpl : ((backTo pos (starEach (e :: es) X.env)).any (·.1) || (backToKw pos (keywordEach kws X.env)).any (·.1.isNone)) = false := by rfl) :
    PE X (.Call (.Name x q1) (e :: es) kws pos) (tMakeLK i C n ks.length sp gV E t tk) := by
  refine ⟨fun pins s σ H Q I h => ?_⟩
  obtain ⟨hs, ht⟩ := h
  refine wpAny_Call_Name_kw (thn ((pe_var (pos := q1) hN hv hdb hcd).run pins s σ H (fun v H1 => v = .ref C ∧ H1 = H) I ⟨.ref C, hs, rfl, rfl⟩) fun u s0 ⟨v, H0, I0, r0, z⟩ => ?_)
  obtain ⟨rfl, rfl⟩ := z
  cases r0
  refine PySem.W.callWith_KW (h₀ := X.base) I.ok.mod.kin M.kp hall (thn (ha.run pos pins s0 σ _ _ I0 ht) fun us s1 ⟨vs, H1, I1, r, q⟩ => ?_) hpl he
  refine thn (hkw.run pos pins s1 σ H1 _ I1 q) fun ws s2 ⟨zs, H2, I2, rz, l1, l2, q2⟩ => ⟨I2.kIn, ?_⟩
  rw [hks]
  exact run_makeK M F hr hb hx I2 r rz l1 l2 q2
theorem s_makeLK {i m : Nat} {σ : St} {H : Hp} {Q : VK} (h : σ[i]? = some (some (.ref C))) (k : t σ H fun vs H1 => tk σ H1 fun zs H2 => MakeKG C n m sp gV E vs zs H2 Q) : tMakeLK i C n m sp gV E t tk σ H Q := ⟨h, s_makeK k⟩
end
/-- list of a text, a list or a tuple -/
def rListU (K : PySem.W.Frag) : List V → Hp → VK → Prop := fun xs H Q => rListS xs H Q ∨ ∃ p ys, xs = [.ref p] ∧ (SqL K H p ys ∨ SqT K H p ys) ∧ ∀ l, H l = none → Q (.ref l) (upd H l (.lst ys))
theorem call_listU {X : Cx} (hc : X.calm = true) : CallR X (.type "list") (rListU X.K) := by
  intro pins s σ H xs us Q I r h
  rcases h with h | h
  · exact call_listS hc pins s σ H xs us Q I r h
  · exact call_list_of pins s σ H xs us Q I r h
end WB
namespace WB
open PySem PySem.Spec PyProof.Rows L2
/-! ### loops without turns -/
/-! ### the default of turns -/
def dfl0 (K : PySem.W.Frag) : Addr := He.dflAt ("Loop", some "__init__") 0 K
def Dfl0 (K : PySem.W.Frag) : Prop := ∀ H : Hp, SqT K H (He.dflAt ("Loop", some "__init__") 0 K) []
end WB
namespace WB
open PySem PySem.Spec PyProof.Rows L2
/-! ### rows that are not the same -/
theorem scD_inj {u v : V} (hu : Pl u) (hv : Pl v) (h : PyData.eqv (scD u) (scD v) = true) : u = v := by
  rcases hu with ⟨i, rfl⟩ | ⟨l, _, rfl⟩ <;> rcases hv with ⟨j, rfl⟩ | ⟨m, _, rfl⟩
  · simp only [scD, PyData.eqv, beq_iff_eq] at h
    rw [h]
  · simp [scD, vS, PyData.eqv] at h
  · simp [scD, vS, PyData.eqv] at h
  · simp only [scD, vS, PyData.eqv, beq_iff_eq] at h
    show V.str (S l) = V.str (S m)
    rw [h]
theorem eqvAll_inj : ∀ (l m : List V), (∀ v ∈ l, Pl v) → (∀ v ∈ m, Pl v) → PyData.eqvAll (l.map scD) (m.map scD) = true → l = m
  | [], [], _, _, _ => rfl
  | [], _ :: _, _, _, h => by simp [PyData.eqvAll] at h
  | _ :: _, [], _, _, h => by simp [PyData.eqvAll] at h
  | u :: l, v :: m, hl, hm, h => by
    simp only [List.map_cons, PyData.eqvAll, Bool.and_eq_true] at h
    rw [scD_inj (hl u List.mem_cons_self) (hm v List.mem_cons_self) h.1, eqvAll_inj l m (fun x hx => hl x (List.mem_cons_of_mem _ hx)) (fun x hx => hm x (List.mem_cons_of_mem _ hx)) h.2]
def tpD (l : List V) : PyData := .tuple (l.map scD)
theorem eqvAll_inj2 : ∀ (l m : List (List V)), (∀ v ∈ l, ∀ u ∈ v, Pl u) → (∀ v ∈ m, ∀ u ∈ v, Pl u) → PyData.eqvAll (l.map tpD) (m.map tpD) = true → l = m
  | [], [], _, _, _ => rfl
  | [], _ :: _, _, _, h => by simp [PyData.eqvAll] at h
  | _ :: _, [], _, _, h => by simp [PyData.eqvAll] at h
  | u :: l, v :: m, hl, hm, h => by
    simp only [List.map_cons, PyData.eqvAll, Bool.and_eq_true] at h
    have h1 : PyData.eqvAll (u.map scD) (v.map scD) = true := by
      have := h.1
      unfold tpD at this
      rw [PyData.eqv] at this
      exact this
    rw [eqvAll_inj u v (hl u List.mem_cons_self) (hm v List.mem_cons_self) h1, eqvAll_inj2 l m (fun x hx => hl x (List.mem_cons_of_mem _ hx)) (fun x hx => hm x (List.mem_cons_of_mem _ hx)) h.2]
theorem vS_map_inj : ∀ {l m : List (List Nat)}, l.map vS = m.map vS → l = m
  | [], [], _ => rfl
  | [], _ :: _, h => by cases h
  | _ :: _, [], h => by cases h
  | a :: l, b :: m, h => by
    obtain ⟨h1, h2⟩ := List.cons.inj h
    rw [S_inj (V.str.inj h1), vS_map_inj h2]
theorem nodup_inj {α β : Type} {f : α → β} : ∀ {l : List α}, (l.map f).Nodup → ∀ {x y : α}, x ∈ l → y ∈ l → f x = f y → x = y
  | [], _, _, _, hx, _, _ => by cases hx
  | a :: l, h, x, y, hx, hy, e => by
    obtain ⟨h1, h2⟩ := List.nodup_cons.mp h
    rcases List.mem_cons.mp hx with rfl | hx' <;> rcases List.mem_cons.mp hy with rfl | hy'
    · rfl
    · exact absurd (List.mem_map.mpr ⟨y, hy', e.symm⟩) h1
    · exact absurd (List.mem_map.mpr ⟨x, hx', e⟩) h1
    · exact nodup_inj h2 hx' hy' e
theorem lrow_inj {M M' : LM} (g : GL M) (g' : GL M') (h : PyData.eqv (lrowD M) (lrowD M') = true) : M.st = M'.st ∧ (rwsOf M).map rwV = (rwsOf M').map rwV ∧ (tnsOf M).map tnV = (tnsOf M').map tnV ∧ M.ok = M'.ok := by
  unfold lrowD at h
  rw [PyData.eqv] at h
  simp only [PyData.eqvAll, Bool.and_eq_true] at h
  obtain ⟨_, h2, h3, h4, h5, _⟩ := h
  rw [PyData.eqv] at h2 h3 h4 h5
  exact ⟨vS_map_inj (eqvAll_inj _ _ (pl_strs fun l hl => plain_st g.g hl) (pl_strs fun l hl => plain_st g'.g hl) h2), eqvAll_inj2 _ _ (pl_rows g.g) (pl_rows g'.g) h3, eqvAll_inj2 _ _ (pl_tns g.g) (pl_tns g'.g) h4,
    vS_map_inj (eqvAll_inj _ _ (pl_strs fun l hl => plain_st g.g (g.g.ok l hl)) (pl_strs fun l hl => plain_st g'.g (g'.g.ok l hl)) h5)⟩
theorem not_eqv {d e : PyData} (h : PyData.eqv d e = true → False) : PyData.eqv d e = false := by
  cases z : PyData.eqv d e with
  | false => rfl
  | true => exact absurd z h
theorem set_map {α β : Type} [DecidableEq β] (f : α → β) : ∀ (l : List α) (i : Nat) (y x : α), (l.map f).Nodup → l[i]? = some y → l.set i x = l.map fun r => if f r = f y then x else r
  | [], _, _, _, _, h => by cases h
  | r :: l, 0, y, x, hn, h => by
    cases h
    obtain ⟨h1, _⟩ := List.nodup_cons.mp hn
    rw [List.set_cons_zero, List.map_cons, if_pos rfl]
    congr 1
    have : ∀ z ∈ l, (if f z = f r then x else z) = z := fun z hz => if_neg fun (e : f z = f r) => h1 (List.mem_map.mpr ⟨z, hz, e⟩)
    rw [List.map_congr_left this, List.map_id']
  | r :: l, i + 1, y, x, hn, h => by
    obtain ⟨h1, h2⟩ := List.nodup_cons.mp hn
    have hy : l[i]? = some y := h
    have : f r ≠ f y := fun e => h1 (List.mem_map.mpr ⟨y, List.mem_of_getElem? hy, e.symm⟩)
    rw [List.set_cons_succ, List.map_cons, if_neg this, set_map f l i y x h2 hy]
/-! ### parts told in drawn orders -/
theorem tbOf_mem {rs : List Rw} (hn : (rs.map fun r => (r.a, r.c)).Nodup) {r : Rw} (hr : r ∈ rs) : tbOf rs r.a r.c = (r.b, r.n) := by
  unfold tbOf
  cases h : rs.find? fun q => decide (q.a = r.a ∧ q.c = r.c) with
  | none =>
    have := List.find?_eq_none.mp h r hr
    exact absurd (decide_eq_true ⟨rfl, rfl⟩) this
  | some q =>
    have h0 := List.find?_some h
    have h1 : q.a = r.a ∧ q.c = r.c := of_decide_eq_true h0
    have hq := List.mem_of_find?_eq_some h
    have e : q = r := by
      exact nodup_inj hn hq hr (Prod.ext h1.1 h1.2)
    rw [e]
    rfl
structure Told (M : LM) (s : List Nat) (rs : List Rw) (ts : List Tn) (ys : List (List Nat)) : Prop where
  s : s.Perm M.ab
  r : rs.Perm (rwsOf (srtM M))
  t : ts.Nodup ∧ (∀ t ∈ ts, t ∈ tnsOf M) ∧ ∀ t ∈ tnsOf M, t ∉ ts → (t.b, t.n) = (t.a, 0)
  y : ys.Perm M.ok
section
variable {M : LM} {s : List Nat} {rs : List Rw} {ts : List Tn} {ys : List (List Nat)}
theorem Told.rows (m : GM M) (h : Told M s rs ts ys) : goodRws s M.st rs := by
  have g := good_rws (good_srt m.g)
  have hs : s.Perm (sgn M.ab) := h.s.trans (sgn_perm M.ab).symm
  refine ⟨fun r hr => ?_, ?_, ?_⟩
  · have := g.1 r (h.r.mem_iff.mp hr)
    exact ⟨this.1, hs.mem_iff.mpr this.2.1, this.2.2⟩
  · exact (h.r.map _).nodup_iff.mpr g.2.1
  · rw [h.r.length_eq, g.2.2]
    show (sgn M.ab).length * _ = _
    rw [hs.length_eq]
    rfl
theorem tn_inj {a b : Tn} (ha : a ∈ tnsOf M) (hb : b ∈ tnsOf M) (e : a.a = b.a) : a = b := by
  obtain ⟨x, _, rfl⟩ := List.mem_map.mp ha
  obtain ⟨y, _, rfl⟩ := List.mem_map.mp hb
  have e : x = y := e
  rw [e]
theorem Told.tns (m : GM M) (h : Told M s rs ts ys) : goodTns M.st ts := by
  have g := good_tns m.g
  refine ⟨fun t ht => g.1 t (h.t.2.1 t ht), ?_⟩
  refine List.pairwise_map.mpr ?_
  refine List.Pairwise.imp_of_mem (fun {a b} ha hb (z : a ≠ b) e => z (tn_inj (h.t.2.1 a ha) (h.t.2.1 b hb) e)) h.t.1
theorem Told.yes (m : GM M) (h : Told M s rs ts ys) : goodYes M.st ys := ⟨fun y hy => m.g.ok y (h.y.mem_iff.mp hy), h.y.nodup_iff.mpr (by rw [← m.f]; exact m.g.st.2.2.1.sublist List.filter_sublist)⟩
theorem Told.gs (m : GM M) (h : Told M s rs ts ys) : goodS s := goodS_perm m.g.ab h.s
theorem Told.q1 (h : Told M s rs ts ys) : (srtM M).ab = sgn s := (sgn_of_perm h.s).symm
theorem Told.q3 (m : GM M) (h : Told M s rs ts ys) : ∀ a ∈ M.st, ∀ c ∈ sgn s, M.tb a c = tbOf rs a c := fun a ha c hc => by
  have hc : c ∈ (srtM M).ab := by rw [h.q1]; exact hc
  have := tbOf_mem (h.rows m).2.1 (h.r.mem_iff.mpr (rws_mem (M := srtM M) ha hc))
  exact this.symm
theorem Told.q4 (m : GM M) (h : Told M s rs ts ys) : ∀ a ∈ M.st, M.en a = enOf ts a := fun a ha => by
  have hin : (⟨a, (M.en a).1, (M.en a).2⟩ : Tn) ∈ tnsOf M := List.mem_map.mpr ⟨a, ha, rfl⟩
  unfold enOf
  cases hf : ts.find? fun t => decide (t.a = a) with
  | none =>
    have hn : (⟨a, (M.en a).1, (M.en a).2⟩ : Tn) ∉ ts := fun z => absurd (decide_eq_true rfl) (List.find?_eq_none.mp hf _ z)
    exact h.t.2.2 _ hin hn
  | some t =>
    have h0 := List.find?_some hf
    have h1 : t.a = a := of_decide_eq_true h0
    have e := tn_inj (h.t.2.1 t (List.mem_of_find?_eq_some hf)) hin h1
    rw [e]
    rfl
theorem Told.q5 (m : GM M) (h : Told M s rs ts ys) : M.ok = M.st.filter fun a => decide (a ∈ ys) := by
  refine m.f.symm.trans (List.filter_congr fun a _ => ?_)
  simp only [h.y.mem_iff]
end
theorem mk_loopG {K : PySem.W.Frag} {H : Hp} {Q : VK} {E : XK} {n m : Nat} {gV : List V → List V → List V} {us zs : List V} {M' : LM} {o r t y : Addr} {st : List (List Nat)} {rs : List Rw} {ts : List Tn} {ys : List (List Nat)} {s : List Nat} (lu : us.length = n) (lz : zs.length = m) (eg : ∀ x : Addr, gV (.ref x :: us) zs = [.ref x, vS s, .ref o, .ref r, .ref t, .ref y])
    (hs : goodS s) (ho : SqT K H o (st.map vS)) (hst : goodSt st) (hr : TupsAt K H r (rs.map rwV)) (hrs : goodRws s st rs) (ht : TupsAt K H t (ts.map tnV)) (hts : goodTns st ts) (hy : SqT K H y (ys.map vS)) (hys : goodYes st ys)
    (q1 : M'.ab = sgn s) (q2 : M'.st = st) (q3 : ∀ a ∈ st, ∀ c ∈ sgn s, M'.tb a c = tbOf rs a c) (q4 : ∀ a ∈ st, M'.en a = enOf ts a) (q5 : M'.ok = st.filter fun a => decide (a ∈ ys)) (k : ∀ x H', Ex [] H H' → LoopAt K H' x M' → Q (.ref x) H') :
    MakeKG (He.ga K "Loop") n m (sp_Loop_init K) gV E us zs H Q := by
  refine ⟨lu, lz, fun x dx hx hdx hne => ?_⟩
  have ex : Ex [] H (upd (upd H dx (.own x)) x (.ins (He.ga K "Loop") dx [])) := by
    refine (Ex.new hdx).trans (Ex.new ?_)
    rw [upd_ne (Ne.symm hne)]
    exact hx
  rw [eg]
  refine ⟨x, s, o, r, t, y, dx, rfl, upd_same, st, rs, ts, ys, hs, ex.sqT (by simp) ho, hst, hr.ex0 ex, hrs, ht.ex0 ex, hts, ex.sqT (by simp) hy, hys, fun H2 e2 hl => ⟨rfl, ?_⟩⟩
  refine k x H2 (Ex.dropN hx ex e2) ?_
  exact LoopAt.same (M := mkLM s st rs ts ys) q1 q2 q3 q4 q5 hl
/-- the same loop without turns and yes states -/
def bareL (M : LM) : LM := { M with en := fun a => (a, 0), ok := [] }
theorem gl_bare {M : LM} (g : GL M) : GL (bareL M) := ⟨⟨g.g.ab, g.g.st, g.g.tb, fun a ha => ha, fun a ha => by cases ha⟩, by
  show M.st.filter (fun a => decide (a ∈ ([] : List (List Nat)))) = []
  simp, g.s⟩
/-- yes states in the order of the states -/
def fltM (M : LM) : LM := { srtM M with ok := M.st.filter fun a => decide (a ∈ M.ok) }
theorem flt_eq {M : LM} (m : GM M) : fltM M = srtM M := by
  unfold fltM
  rw [m.f]
  rfl
theorem gl_flt {M : LM} (g : GoodM M) : GL (fltM M) := ⟨⟨goodS_sgn g.ab, g.st, fun a ha c hc => g.tb a ha c ((sgn_perm M.ab).mem_iff.mp hc), g.en, fun a ha => (List.mem_filter.mp ha).1⟩, by
  show M.st.filter (fun a => decide (a ∈ M.st.filter fun a => decide (a ∈ M.ok))) = _
  apply List.filter_congr
  intro b hb
  simp [List.mem_filter, hb], sgn_idem _⟩
theorem gl_ok {M : LM} (g : GL M) (f : List Nat → Bool) : GL { M with ok := M.st.filter f } := ⟨⟨g.g.ab, g.g.st, g.g.tb, g.g.en, fun a ha => (List.mem_filter.mp ha).1⟩, by
  show M.st.filter (fun a => decide (a ∈ M.st.filter f)) = _
  apply List.filter_congr
  intro b hb
  simp [List.mem_filter, hb], g.s⟩
/-! ### promises -/
section
variable {K : PySem.W.Frag} {H H' : Hp} {Q : VK} {E : XK} {a p q x : Addr} {M : LM} {v : V} {xs : List V}
/-- a text, a list or a tuple -/
def SeqV (K : PySem.W.Frag) (H : Hp) (v : V) (xs : List V) : Prop := (∃ l : List Nat, v = vS l ∧ xs = l.map fun c => vS [c]) ∨ ∃ t, v = .ref t ∧ (SqL K H t xs ∨ SqT K H t xs)
theorem SeqV.ex0 (e : Ex [] H H') (h : SeqV K H v xs) : SeqV K H' v xs := by
  rcases h with h | ⟨t, rfl, h | h⟩
  · exact .inl h
  · exact .inr ⟨t, rfl, .inl (e.sqL (by simp) h)⟩
  · exact .inr ⟨t, rfl, .inr (e.sqT (by simp) h)⟩
theorem s_listU (h : SeqV K H v xs) (hl : xs.length ≤ 600) (k : ∀ p H2, H p = none → Ex [] H H2 → H2 p = some (.lst xs) → Q (.ref p) H2) : rListU K [v] H Q := by
  rcases h with ⟨l, rfl, rfl⟩ | ⟨t, rfl, h⟩
  · exact .inl ⟨l, rfl, Nat.le_trans (by simpa using hl) (by decide), k⟩
  · exact .inr ⟨t, xs, rfl, h, s_new k⟩
theorem s_lenU (h : SeqV K H v xs) (hl : xs.length ≤ 600) (k : Q (.int xs.length) H) : rLenV K [v] H Q := by
  rcases h with ⟨l, rfl, rfl⟩ | ⟨t, rfl, h | h⟩
  · rw [List.length_map] at hl k
    exact s_lenS (Nat.le_trans hl (by decide)) k
  · exact s_lenL h k
  · exact s_lenT h k
def sp_law_shufU (K : PySem.W.Frag) : Sp := fun vs H Q _ => ∃ (a : Addr) (v : V), vs = [.ref a, v] ∧ ∃ xs : List V, SeqV K H v xs ∧ xs.length ≤ 600 ∧ PoolAt H a ∧ ∀ (ys : List V) (p : Addr) (H' : Hp), ys.Perm xs → H p = none → Ex [a] H H' → PoolAt H' a → H' p = some (.lst ys) → Q (.ref p) H'
theorem u_shufU (h : SeqV K H v xs) (hl : xs.length ≤ 600) (hp : PoolAt H a) (k : ∀ (ys : List V) (p : Addr) (H' : Hp), ys.Perm xs → H p = none → Ex [a] H H' → PoolAt H' a → H' p = some (.lst ys) → Q (.ref p) H') : sp_law_shufU K ([.ref a, v] ++ []) H Q E := ⟨a, v, rfl, xs, h, hl, hp, k⟩
def sp_Loop_yes (K : PySem.W.Frag) : Sp := fun vs H Q _ => ∃ x : Addr, vs = [.ref x] ∧ ∃ M : LM, LoopAt K H x M ∧ ∀ o, SqT K H o (M.ok.map vS) → Q (.ref o) H
theorem u_lyes (hx : LoopAt K H x M) (k : ∀ o, SqT K H o (M.ok.map vS) → Q (.ref o) H) : PropG (He.ga K "Loop") (sp_Loop_yes K) [] E (.ref x) H Q := u_propLoop hx ⟨x, rfl, M, hx, k⟩
def sp_Loop_made (K : PySem.W.Frag) : Sp := fun vs H Q _ => ∃ q : Addr, vs = [.ref (He.ga K "Loop"), .ref q] ∧ ∃ M : LM, LRowAt K H q M ∧ GL M ∧ ∀ x H', Ex [] H H' → LoopAt K H' x M → Q (.ref x) H'
def sp_law_lineF (K : PySem.W.Frag) : Sp := fun vs H Q _ => ∃ q : Addr, vs = [.ref q] ∧ ∃ M : LM, MAt K H q M ∧ GoodM M ∧ ∀ p H', Ex [] H H' → LRowAt K H' p (fltM M) → Q (.ref p) H'
theorem u_lineF (h : MAt K H q M) (g : GoodM M) (k : ∀ p H', Ex [] H H' → LRowAt K H' p (fltM M) → Q (.ref p) H') : sp_law_lineF K ([.ref q] ++ []) H Q E := ⟨q, rfl, M, h, g, k⟩
theorem u_lineG (h : MAt K H q M) (m : GM M) (k : ∀ p H', Ex [] H H' → LRowAt K H' p (srtM M) → Q (.ref p) H') : sp_law_lineF K ([.ref q] ++ []) H Q E := u_lineF h m.g fun p H' e r => k p H' e (by rw [flt_eq m] at r; exact r)
def sp_law_is_loop (K : PySem.W.Frag) : Sp := fun vs H Q _ => ∃ (x p : Addr), vs = [.ref x, .ref p] ∧ ∃ M : LM, LoopAt K H x M ∧ GL M ∧ LRowAt K H p M ∧ ∀ H', Ex [] H H' → Q (.bl true) H'
theorem u_is_loop (hx : LoopAt K H x M) (g : GL M) (hp : LRowAt K H p M) (k : ∀ H', Ex [] H H' → Q (.bl true) H') : sp_law_is_loop K ([.ref x, .ref p] ++ []) H Q E := ⟨x, p, rfl, M, hx, g, hp, k⟩
def PartsAt (K : PySem.W.Frag) (H : Hp) (p : Addr) (M : LM) (s : List Nat) (rs : List Rw) (ts : List Tn) (ys : List (List Nat)) : Prop := ∃ o r t y, H p = some (.lst [vS s, .ref o, .ref r, .ref t, .ref y]) ∧ SqT K H o (M.st.map vS) ∧ TupsAt K H r (rs.map rwV) ∧ TupsAt K H t (ts.map tnV) ∧ SqT K H y (ys.map vS)
def sp_law_parts (K : PySem.W.Frag) : Sp := fun vs H Q _ => ∃ (a q : Addr), vs = [.ref a, .ref q] ∧ ∃ M : LM, MAt K H q M ∧ GM M ∧ PoolAt H a ∧ ∀ p s rs ts ys H', Ex [a] H H' → PoolAt H' a → Told M s rs ts ys → PartsAt K H' p M s rs ts ys → Q (.ref p) H'
theorem u_parts (h : MAt K H q M) (m : GM M) (hp : PoolAt H a) (k : ∀ p s rs ts ys H', Ex [a] H H' → PoolAt H' a → Told M s rs ts ys → PartsAt K H' p M s rs ts ys → Q (.ref p) H') : sp_law_parts K ([.ref a, .ref q] ++ []) H Q E := ⟨a, q, rfl, M, h, m, hp, k⟩
def sp_law_other (K : PySem.W.Frag) : Sp := fun vs H Q _ => ∃ (a q : Addr), vs = [.ref a, .ref q] ∧ ∃ M : LM, MAt K H q M ∧ GM M ∧ PoolAt H a ∧ ∀ p M' H', Ex [a] H H' → PoolAt H' a → LRowAt K H' p M' → GL M' → PyData.eqv (lrowD M') (lrowD (srtM M)) = false → Q (.ref p) H'
theorem u_other (h : MAt K H q M) (m : GM M) (hp : PoolAt H a) (k : ∀ p M' H', Ex [a] H H' → PoolAt H' a → LRowAt K H' p M' → GL M' → PyData.eqv (lrowD M') (lrowD (srtM M)) = false → Q (.ref p) H') : sp_law_other K ([.ref a, .ref q] ++ []) H Q E := ⟨a, q, rfl, M, h, m, hp, k⟩
theorem LRowAt.exP (hp : PoolAt H a) (e : Ex [a] H H') (h : LRowAt K H p M) : LRowAt K H' p M := by
  obtain ⟨o, r, t, y, h1, h2, h3, h4, h5⟩ := h
  exact ⟨o, r, t, y, sqT_pool hp e h1, sqT_pool hp e h2, h3.exP hp e, h4.exP hp e, sqT_pool hp e h5⟩
theorem Tups.cons {x : V} {l : List V} {ls : List (List V)} (h0 : ∃ p, x = .ref p ∧ SqT K H p l) (h : Tups K H xs ls) : Tups K H (x :: xs) (l :: ls) := ⟨by simp [h.1], fun i y m h1 h2 => by
  cases i with
  | zero => cases h1; cases h2; exact h0
  | succ i => exact h.2 i y m h1 h2⟩
theorem Tups.un {x : V} {l : List V} {ls : List (List V)} (h : Tups K H (x :: xs) (l :: ls)) : (∃ p, x = .ref p ∧ SqT K H p l) ∧ Tups K H xs ls := ⟨h.2 0 x l rfl rfl, by simpa using h.1, fun i y m h1 h2 => h.2 (i + 1) y m h1 h2⟩
theorem tups_cons {α : Type} {f : α → List V} {x : V} {l : List α} (h : Tups K H (x :: xs) (l.map f)) : ∃ b l0, l = b :: l0 ∧ (∃ p, x = .ref p ∧ SqT K H p (f b)) ∧ Tups K H xs (l0.map f) := by
  match l, h with
  | [], h => exact absurd h.1 (by simp)
  | b :: l0, h => exact ⟨b, l0, rfl, h.un.1, h.un.2⟩
/-- a permuted list of tuples -/
theorem tups_perm {α : Type} (f : α → List V) {xs ys : List V} (hp : ys.Perm xs) : ∀ {l : List α}, Tups K H xs (l.map f) → ∃ m : List α, m.Perm l ∧ Tups K H ys (m.map f) := by
  induction hp with
  | nil => exact fun {l} h => ⟨l, List.Perm.refl _, h⟩
  | cons x _ ih =>
    intro l h
    obtain ⟨b, l0, rfl, h0, h1⟩ := tups_cons h
    obtain ⟨m, m1, m2⟩ := ih h1
    exact ⟨b :: m, m1.cons b, m2.cons h0⟩
  | swap x y l' =>
    intro l h
    obtain ⟨b, l0, rfl, h0, h1⟩ := tups_cons h
    obtain ⟨c, l1, rfl, h2, h3⟩ := tups_cons h1
    exact ⟨c :: b :: l1, List.Perm.swap b c l1, (h3.cons h0).cons h2⟩
  | trans _ _ ih1 ih2 =>
    intro l h
    obtain ⟨m, m1, m2⟩ := ih2 h
    obtain ⟨n, n1, n2⟩ := ih1 m2
    exact ⟨n, n1.trans m1, n2⟩
end
end WB
namespace WB
open PySem PySem.Spec PyProof.Rows L2
local macro_rules | `(tactic| walk_at "lit") => `(tactic| first | exact lit_abc | exact lit_empty)
local macro_rules | `(tactic| walk_at "nm") => `(tactic| focus first | exact List.not_mem_nil | (simp only [List.mem_singleton]; first | assumption | (exact Ne.symm (by assumption)) | (intro hz; subst hz; simp_all; done)))
local macro_rules | `(tactic| walk_at "hp") => `(tactic| first | assumption | (apply Ex.get0 (by assumption); walk_at "hp") | (apply Ex.get (by assumption); (walk_at "nm"); (walk_at "hp")))
local macro_rules | `(tactic| walk_at "sq") => `(tactic| first | assumption | (apply SqL.of; walk_at "hp") | (apply Ex.sqL (by assumption); (walk_at "nm"); (walk_at "sq")))
local macro_rules | `(tactic| walk_at "sqt") => `(tactic| first | assumption | (apply SqT.of; walk_at "hp") | (apply Ex.sqT (by assumption); (walk_at "nm"); (walk_at "sqt")))
local macro_rules | `(tactic| walk_at "sz") => `(tactic| focus ((with_reducible refine Nat.le_trans (m := 100000) ?_ (by decide)); first | omega | (simp; done) | (simp; omega)))
local macro_rules | `(tactic| walk_at "mul") => `(tactic| first | exact Or.inr ⟨by omega, by omega⟩ | exact Or.inl ⟨by omega, by omega⟩)
local macro_rules | `(tactic| walk_at "pool") => `(tactic| first | assumption | (apply PoolAt.ex (by assumption); (walk_at "nm"); (walk_at "pool")))
local macro_rules | `(tactic| walk_at "ring") => `(tactic| first | assumption | (apply RingAt.ex (by assumption); (walk_at "nm"); (walk_at "ring")))
local macro_rules | `(tactic| walk_at "st") => `(tactic| first
  | with_reducible refine s_seq ?_
  | with_reducible refine s_asg ?_
  | with_reducible refine s_gName ?_
  | with_reducible refine s_ret ?_
  | with_reducible refine s_ifS ?_
  | with_reducible refine s_next ?_
  | with_reducible refine s_op ?_
  | ((with_reducible apply s_var); exact rfl)
  | ((with_reducible apply s_cS); (walk_at "lit"))
  | with_reducible refine s_c ?_
  | with_reducible refine s_cb ?_
  | with_reducible refine s_cons ?_
  | with_reducible refine s_nil ?_
  | with_reducible refine s_un ?_
  | with_reducible refine s_call ?_
  | with_reducible refine s_test ?_
  | with_reducible refine s_tB ?_
  | with_reducible refine s_blQ ?_
  | with_reducible refine s_not ?_
  | with_reducible refine s_and ?_
  | with_reducible refine s_or ?_
  | with_reducible refine s_andV ?_
  | with_reducible refine s_orV ?_
  | with_reducible refine s_notV ?_
  | with_reducible refine s_ifE ?_
  | with_reducible refine s_chain ?_
  | ((with_reducible refine s_T ?_ ?_); (with_reducible exact rfl))
  | with_reducible refine s_nT ?_
  | with_reducible refine s_nF ?_
  | ((with_reducible refine s_F ?_ ?_); (with_reducible exact rfl))
  | ((with_reducible refine s_T ?_ ?_); assumption)
  | ((with_reducible refine s_F ?_ ?_); assumption)
  | ((with_reducible refine s_nB ?_ ?_); assumption)
  | ((with_reducible refine s_nA ?_ ?_); assumption)
  | ((with_reducible refine s_Td ?_ ?_); omega)
  | ((with_reducible refine s_Fd ?_ ?_); omega)
  | ((with_reducible refine s_nTd ?_ ?_); omega)
  | ((with_reducible refine s_nFd ?_ ?_); omega)
  | with_reducible refine s_sfld ?_
  | with_reducible refine s_addI ?_
  | with_reducible refine s_subI ?_
  | ((with_reducible refine s_mulI ?_ ?_); (walk_at "mul"))
  | ((with_reducible refine s_divI ?_ ?_); exact ⟨by omega, by omega⟩)
  | ((with_reducible refine s_modI ?_ ?_); omega)
  | ((with_reducible refine s_powI ?_ ?_); exact ⟨by decide, by decide, by decide⟩)
  | with_reducible refine s_ltI ?_
  | with_reducible refine s_leI ?_
  | with_reducible refine s_gtI ?_
  | with_reducible refine s_geI ?_
  | with_reducible refine s_negI ?_
  | with_reducible refine s_absI ?_
  | with_reducible refine s_intI ?_
  | with_reducible refine s_min2 ?_
  | with_reducible refine s_max2 ?_
  | with_reducible refine s_eqI ?_
  | with_reducible refine s_neI ?_
  | with_reducible refine s_eqS ?_
  | with_reducible refine s_neS ?_
  | with_reducible refine s_inSg ?_
  | with_reducible refine s_notInSg ?_
  | ((with_reducible refine s_addS ?_ ?_); (walk_at "sz"))
  | ((with_reducible refine s_lenS ?_ ?_); (walk_at "sz"))
  | ((with_reducible apply s_lenL); (walk_at "sq"))
  | ((with_reducible apply s_lenT); (walk_at "sqt"))
  | ((with_reducible apply s_ixL); (walk_at "sq"); exact rfl)
  | ((with_reducible apply s_ixT); (walk_at "sqt"); exact rfl)
  | with_reducible refine s_gSub ?_
  | ((with_reducible apply s_setL); (walk_at "hp"); (exact rfl); (intro _ _ _))
  | ((with_reducible refine s_alloc ?_ ?_); (walk_at "sz"); (intro _ _ _ _ _))
  | ((with_reducible refine s_divmod ?_ ?_); (exact ⟨by omega, PyProof.noPylong_small (by omega)⟩); (intro _ _ _ _ _))
  | ((with_reducible apply s_gTup); (walk_at "sqt"); (exact rfl))
  | ((with_reducible apply s_gLst); (walk_at "sq"); (exact rfl))
  | with_reducible refine s_gCons ?_
  | with_reducible refine s_gNil ?_
  | with_reducible refine s_lc ?_
  | ((with_reducible apply s_cat); (walk_at "hp"); (walk_at "hp"); (walk_at "sz"); (intro _ _ _ _ _))
  | ((with_reducible apply s_slL); (walk_at "sq"); (intro _ _ _ _ _))
  | with_reducible refine s_for ?_
  | with_reducible refine s_rng1 ?_
  | ((with_reducible refine s_rng1i ?_ ?_); (constructor <;> omega))
  | with_reducible refine s_rng2 ?_
  | ((with_reducible refine s_rng2i ?_ ?_); (refine ⟨?_, ?_, ?_, ?_⟩ <;> omega))
  | with_reducible refine s_iStr ?_
  | with_reducible refine s_iStrS ?_
  | with_reducible refine s_iList ?_
  | ((with_reducible apply s_iListA); (walk_at "sq"))
  | with_reducible refine s_iTup ?_
  | ((with_reducible apply s_iTupA); (walk_at "sqt"))
  | with_reducible refine s_sl ?_
  | with_reducible refine s_noPart ?_
  | with_reducible refine s_part ?_
  | with_reducible refine s_int1 ?_
  | ((with_reducible refine s_slS ?_ ?_); (walk_at "sz"))
  | with_reducible refine s_tup ?_
  | with_reducible refine s_lst ?_
  | with_reducible refine s_par ?_
  | with_reducible refine s_pair ?_
  | with_reducible refine s_M1 ?_
  | with_reducible refine s_isStr ?_
  | with_reducible refine s_revS ?_
  | ((with_reducible refine s_revS1 ?_ ?_); (walk_at "sz"))
  | with_reducible refine s_fldE ?_
  | with_reducible refine s_propE ?_
  | ((with_reducible refine u_draw ?_ ?_ ?_ ?_); omega; omega; (walk_at "pool"); (intro _ _ _ _ _ _))
  | ((with_reducible refine u_pool ?_); (intro _ _ _ _ _))
  | with_reducible refine u_is_integer ?_
  | with_reducible refine s_isiII ?_
  | with_reducible refine s_isiIB ?_
  | with_reducible refine s_isiSS ?_
  | ((with_reducible apply u_fldRing); assumption; (walk_at "ring"))
  | ((with_reducible apply u_textP); (walk_at "ring"))
  | ((with_reducible apply u_strRing); (walk_at "ring"))
  | ((with_reducible apply u_eqRing); (walk_at "ring"); (walk_at "ring"))
  | ((with_reducible apply u_isiRing); assumption; (walk_at "ring"))
  | ((with_reducible refine u_is_word ?_ ?_); omega; (intro _ _))
  | ((with_reducible refine u_turnings ?_ ?_); omega; (intro _ _ _ _ _))
  | with_reducible refine s_makeE ?_
  | with_reducible refine s_methE ?_)
local macro_rules | `(tactic| walk_at "go") => `(tactic| repeat (walk_at "st"))
local macro_rules | `(tactic| walk_at "exs") => `(tactic| first | exact Ex.rfl | assumption | (apply Ex.snoc (by assumption); walk_at "exs") | (apply Ex.snocW (by assumption); walk_at "exs"))
local macro_rules | `(tactic| walk_at "kind") => `(tactic| first | assumption | (apply KindAt.ex0 (by assumption); (walk_at "kind")) | (apply KindAt.exP (by assumption) (by assumption); (walk_at "kind")))
local macro_rules | `(tactic| walk_at "st") => `(tactic| first
  | with_reducible refine s_lenSet ?_
  | with_reducible refine s_drop ?_
  | with_reducible refine s_bm ?_
  | with_reducible refine s_notN ?_
  | with_reducible refine s_isN ?_
  | ((with_reducible apply s_tyL); (walk_at "hp"))
  | with_reducible refine s_enumT ?_
  | ((with_reducible apply s_enumTA); (walk_at "sqt"))
  | with_reducible refine s_lc2 ?_)
local macro_rules | `(tactic| walk_at "lit") => `(tactic| exact lit_MRK)
local macro_rules | `(tactic| walk_at "st") => `(tactic| first
  | with_reducible refine s_dcT ?_
  | with_reducible refine s_dc ?_)
local macro_rules | `(tactic| walk_at "lit") => `(tactic| exact lit_z)
/-- Loop.yes: 0 self -/
def t_Loop_yes (K : PySem.W.Frag) : TS :=
  (tRet (tFld K (tVar 0) "marked"))
/-- _law_shuffled: 0 _law_pool_here 1 _law_things 2 _law_rest 3 _law_found 4 _law_turn -/
def t_law_shufU (K : PySem.W.Frag) : TS :=
  (tSeq (tPar 2 3 (tCons (tCB (rListU K) (tCons (tVar 1) tNil)) (tCons (tLst tNil) tNil)))
  (tSeq (tFor (iRng1 (tCons (tCB (rLenV K) (tCons (tVar 1) tNil)) tNil)) (gName 4) (tDrop (tBM K "list" rAppend (tVar 3) (tCons (tBM K "list" rPopAt (tVar 2) (tCons (tCall (sp_law_draw K) [] E0 (tCons (tVar 0) (tCons (tCB (rLenV K) (tCons (tVar 2) tNil)) tNil))) tNil)) tNil))))
  (tRet (tVar 3))))
/-- Loop.made: 0 cls 1 row 2 loop -/
def t_Loop_made (K : PySem.W.Frag) : TS :=
  (tSeq (tIfS (tNot (tB (tCall (sp_is_row K) [] E0 (tCons (tVar 1) (tCons (tC (.int 5)) tNil))))) tNever tNext)
  (tSeq (tAsg (tMakeLK 0 (He.ga K "Loop") 4 1 (sp_Loop_init K) (fun vs zs => selG [(0, 0), (0, 1), (0, 2), (0, 3), (0, 4), (2, 0)] vs [(.ref (He.dflAt ("Loop", some "__init__") 0 K))] [] zs) E0 (tCons (tOp (rIxT K) (tVar 1) (tC (.int 0))) (tCons (tOp (rIxT K) (tVar 1) (tC (.int 1))) (tCons (tOp (rIxT K) (tVar 1) (tC (.int 2))) (tCons (tOp (rIxT K) (tVar 1) (tC (.int 3))) tNil)))) (tCons (tOp (rIxT K) (tVar 1) (tC (.int 4))) tNil)) (gName 2))
  (tSeq (tIfS (tTest (tOp (rNeD K) (tProp (He.ga K "Loop") (sp_Loop_row K) [] E0 (tVar 2)) (tVar 1))) tNever tNext)
  (tRet (tVar 2)))))
/-- _law_line: 0 _law_model_here 1 _law_abc 2 _law_posts 3 _law_steps 4 _law_ends 5 _law_oks 6 _law_lines 7 _law_post 8 _law_mark 9 _law_closings -/
def t_law_lineF (K : PySem.W.Frag) : TS :=
  (tSeq (tAsg (tVar 0) (gLst K 5 (gCons (gName 1) (gCons (gName 2) (gCons (gName 3) (gCons (gName 4) (gCons (gName 5) gNil)))))))
  (tSeq (tAsg (tM1 (rJoin K) (tC (.str "")) (tCB (rSrt K) (tCons (tVar 1) tNil))) (gName 1))
  (tSeq (tAsg (tLst tNil) (gName 6))
  (tSeq (tFor (iList K (tVar 2)) (gName 7) (tAsg (tOp rCat (tVar 6) (tLc (iStr (tVar 1)) (gName 8) tYes (tOp (rCatA K) (tTup (tCons (tVar 7) (tCons (tVar 8) tNil))) (tDGet (tVar 3) (tTup (tCons (tVar 7) (tCons (tVar 8) tNil))))) [8])) (gName 6)))
  (tSeq (tAsg (tLc (iList K (tVar 2)) (gName 7) tYes (tOp (rCatA K) (tTup (tCons (tVar 7) tNil)) (tDGet (tVar 4) (tVar 7))) [7]) (gName 9))
  (tRet (tTup (tCons (tVar 1) (tCons (tCB (rTupOf K) (tCons (tVar 2) tNil)) (tCons (tCB (rTupOf K) (tCons (tVar 6) tNil)) (tCons (tCB (rTupOf K) (tCons (tVar 9) tNil)) (tCons (tCB (rTupOf K) (tCons (tLc (iList K (tVar 2)) (gName 7) (tTest (tOp (rIn K false) (tVar 7) (tVar 5))) (tVar 7) [7]) tNil)) tNil))))))))))))
/-- _law_is_loop: 0 _law_loop 1 _law_line_here 2 _law_told -/
def t_law_is_loop (K : PySem.W.Frag) : TS :=
  (tSeq (tAsg (tTup (tCons (tProp (He.ga K "Loop") (sp_Loop_signs K) [] E0 (tVar 0)) (tCons (tProp (He.ga K "Loop") (sp_Loop_states K) [] E0 (tVar 0)) (tCons (tProp (He.ga K "Loop") (sp_Loop_rows K) [] E0 (tVar 0)) (tCons (tProp (He.ga K "Loop") (sp_Loop_turns K) [] E0 (tVar 0)) (tCons (tProp (He.ga K "Loop") (sp_Loop_yes K) [] E0 (tVar 0)) tNil)))))) (gName 2))
  (tRet (tAndV (tOp (rEqD K) (tCall (sp_law_face K 6) [] E0 (tCons (tVar 2) tNil)) (tCall (sp_law_face K 6) [] E0 (tCons (tVar 1) tNil))) (tOp (rEqD K) (tCall (sp_law_face K 6) [] E0 (tCons (tProp (He.ga K "Loop") (sp_Loop_row K) [] E0 (tVar 0)) tNil)) (tCall (sp_law_face K 6) [] E0 (tCons (tVar 1) tNil))))))
/-- _law_parts: 0 _law_pool_here 1 _law_model_here 2 _law_line_here 3 _law_ends 4 _law_part 5 _law_abc 6 _law_lines -/
def t_law_parts (K : PySem.W.Frag) : TS :=
  (tSeq (tAsg (tCall (sp_law_lineF K) [] E0 (tCons (tVar 1) tNil)) (gName 2))
  (tSeq (tAsg (tLc (iTup K (tOp (rIxT K) (tVar 2) (tC (.int 3)))) (gName 4) (tOr (tTest (tOp (rNeD K) (tSl (rSlA K) (tVar 4) (tPart (tC (.int 1))) tNoPart) (tTup (tCons (tOp (rIxT K) (tVar 4) (tC (.int 0))) (tCons (tC (.int 0)) tNil))))) (tTest (tOp rEq (tCall (sp_law_draw K) [] E0 (tCons (tVar 0) (tCons (tC (.int 2)) tNil))) (tC (.int 0))))) (tVar 4) [4]) (gName 3))
  (tSeq (tAsg (tM1 (rJoin K) (tC (.str "")) (tCall (sp_law_shufU K) [] E0 (tCons (tVar 0) (tCons (tOp (rIxT K) (tVar 2) (tC (.int 0))) tNil)))) (gName 5))
  (tSeq (tAsg (tCB (rTupOf K) (tCons (tCall (sp_law_shufU K) [] E0 (tCons (tVar 0) (tCons (tOp (rIxT K) (tVar 2) (tC (.int 2))) tNil))) tNil)) (gName 6))
  (tRet (tLst (tCons (tVar 5) (tCons (tOp (rIxT K) (tVar 2) (tC (.int 1))) (tCons (tVar 6) (tCons (tCB (rTupOf K) (tCons (tCall (sp_law_shufU K) [] E0 (tCons (tVar 0) (tCons (tVar 3) tNil))) tNil)) (tCons (tCB (rTupOf K) (tCons (tCall (sp_law_shufU K) [] E0 (tCons (tVar 0) (tCons (tOp (rIxT K) (tVar 2) (tC (.int 4))) tNil))) tNil)) tNil)))))))))))
/-- _law_other: 0 _law_pool_here 1 _law_model_here 2 _law_line_here 3 _law_way 4 _law_lines 5 _law_ends 6 _law_oks 7 _law_at 8 _law_k 9 _law_post 10 _law_posts 11 _law_later -/
def t_law_other (K : PySem.W.Frag) : TS :=
  (tSeq (tAsg (tCall (sp_law_lineF K) [] E0 (tCons (tVar 1) tNil)) (gName 2))
  (tSeq (tAsg (tCall (sp_law_draw K) [] E0 (tCons (tVar 0) (tCons (tC (.int 5)) tNil))) (gName 3))
  (tSeq (tAsg (tTup (tCons (tCB (rListOf K) (tCons (tOp (rIxT K) (tVar 2) (tC (.int 2))) tNil)) (tCons (tCB (rListOf K) (tCons (tOp (rIxT K) (tVar 2) (tC (.int 3))) tNil)) (tCons (tCB (rListOf K) (tCons (tOp (rIxT K) (tVar 2) (tC (.int 4))) tNil)) tNil)))) (gTup K 3 (gCons (gName 4) (gCons (gName 5) (gCons (gName 6) gNil)))))
  (tSeq (tAsg (tTup (tCons (tCall (sp_law_draw K) [] E0 (tCons (tVar 0) (tCons (tCB (rLenV K) (tCons (tVar 4) tNil)) tNil))) (tCons (tCall (sp_law_draw K) [] E0 (tCons (tVar 0) (tCons (tCB (rLenV K) (tCons (tVar 5) tNil)) tNil))) tNil))) (gTup K 2 (gCons (gName 7) (gCons (gName 8) gNil))))
  (tSeq (tIfS (tTest (tOp rEq (tVar 3) (tC (.int 0)))) (tAsg (tOp (rCatA K) (tSl (rSlA K) (tOp (rIxL K) (tVar 4) (tVar 7)) tNoPart (tPart (tC (.int 3)))) (tTup (tCons (tOp rAddI (tOp (rIxT K) (tOp (rIxL K) (tVar 4) (tVar 7)) (tC (.int 3))) (tC (.int 1))) tNil))) (gSub (tVar 4) (tVar 7) rSetL)) tNext)
  (tSeq (tIfS (tTest (tOp rEq (tVar 3) (tC (.int 1)))) (tAsg (tOp (rCatA K) (tSl (rSlA K) (tOp (rIxL K) (tVar 5) (tVar 8)) tNoPart (tPart (tC (.int 2)))) (tTup (tCons (tOp rSubI (tOp (rIxT K) (tOp (rIxL K) (tVar 5) (tVar 8)) (tC (.int 2))) (tC (.int 1))) tNil))) (gSub (tVar 5) (tVar 8) rSetL)) tNext)
  (tSeq (tIfS (tTest (tOp rEq (tVar 3) (tC (.int 2)))) (tAsg (tLc (iTup K (tOp (rIxT K) (tVar 2) (tC (.int 1)))) (gName 9) (tTest (tOp rNe (tOp (rIn K false) (tVar 9) (tVar 6)) (tOp rEq (tVar 9) (tOp (rIxT K) (tOp (rIxT K) (tVar 2) (tC (.int 1))) (tVar 8))))) (tVar 9) [9]) (gName 6)) tNext)
  (tSeq (tIfS (tAnd (tTest (tOp rGtI (tVar 3) (tC (.int 2)))) (tTest (tOp rEq (tCB (rLenV K) (tCons (tOp (rIxT K) (tVar 2) (tC (.int 1))) tNil)) (tC (.int 1))))) (tRet (tOp (rCatA K) (tSl (rSlA K) (tVar 2) tNoPart (tPart (tC (.int 4)))) (tTup (tCons (tSl (rSlA K) (tOp (rIxT K) (tVar 2) (tC (.int 1))) (tPart (tCB (rLenV K) (tCons (tVar 6) tNil))) tNoPart) tNil)))) tNext)
  (tSeq (tIfS (tTest (tOp rEq (tVar 3) (tC (.int 3)))) (tSeq (tAsg (tOp rCat (tSl (rSlL K) (tOp (rIxL K) (tVar 1) (tC (.int 1))) (tPart (tC (.int 1))) tNoPart) (tSl (rSlL K) (tOp (rIxL K) (tVar 1) (tC (.int 1))) tNoPart (tPart (tC (.int 1))))) (gName 10))
  (tRet (tCall (sp_law_lineF K) [] E0 (tCons (tLst (tCons (tOp (rIxL K) (tVar 1) (tC (.int 0))) (tCons (tVar 10) (tCons (tOp (rIxL K) (tVar 1) (tC (.int 2))) (tCons (tOp (rIxL K) (tVar 1) (tC (.int 3))) (tCons (tOp (rIxL K) (tVar 1) (tC (.int 4))) tNil)))))) tNil)))) tNext)
  (tSeq (tIfS (tTest (tOp rEq (tVar 3) (tC (.int 4)))) (tSeq (tAsg (tLc (iTup K (tOp (rIxT K) (tVar 2) (tC (.int 1)))) (gName 9) (tTest (tOp rNe (tVar 9) (tOp (rIxT K) (tOp (rIxL K) (tVar 4) (tVar 7)) (tC (.int 2))))) (tVar 9) [9]) (gName 11))
  (tAsg (tOp (rCatA K) (tSl (rSlA K) (tOp (rIxL K) (tVar 4) (tVar 7)) tNoPart (tPart (tC (.int 2)))) (tTup (tCons (tOp (rIxL K) (tVar 11) (tC (.int 0))) (tCons (tOp (rIxT K) (tOp (rIxL K) (tVar 4) (tVar 7)) (tC (.int 3))) tNil)))) (gSub (tVar 4) (tVar 7) rSetL))) tNext)
  (tRet (tTup (tCons (tOp (rIxT K) (tVar 2) (tC (.int 0))) (tCons (tOp (rIxT K) (tVar 2) (tC (.int 1))) (tCons (tCB (rTupOf K) (tCons (tVar 4) tNil)) (tCons (tCB (rTupOf K) (tCons (tVar 5) tNil)) (tCons (tCB (rTupOf K) (tCons (tVar 6) tNil)) tNil)))))))))))))))))
section
variable {K : PySem.W.Frag} {vs : List V} {H H1 : Hp} {Q : VK} {E : XK}
theorem pure_law_lineF (h : sp_law_lineF K vs H Q E) : t_law_lineF K (E1 Q) (start ["_law_model_here", "_law_abc", "_law_posts", "_law_steps", "_law_ends", "_law_oks", "_law_lines", "_law_post", "_law_mark", "_law_closings"] vs) H := by
  obtain ⟨q, rfl, M, ⟨po, ss, es, oo, kt, ke, h1, h2, h3, h4, h5, h6, h7⟩, g, k⟩ := h
  show t_law_lineF K (E1 Q) [some (.ref q), none, none, none, none, none, none, none, none, none] H
  unfold t_law_lineF
  have hs4 := g.ab.2.1
  have hs6 := g.st.2.1
  walk_at "go"
  refine s_srtS (by omega) fun p1 H1 np1 e1 z1 => ?_
  have hsgl : (sgn M.ab).length ≤ 4 := by rw [(sgn_perm M.ab).length_eq]; exact hs4
  refine s_join0 (SqL.of z1) (Nat.le_trans hsgl (by decide)) ?_
  show gName 1 (vS (sgn M.ab)) _ _ _
  walk_at "go"
  rename_i l0 H2 nl0 e2 z2
  have e02 := e1.trans e2
  clear e1 e2 z1 np1
  refine for_run (walk_list (xs := M.st.map vS)) (fun i σ G => ∃ l xs x7 x8, σ = [some (.ref q), some (vS (sgn M.ab)), some (.ref po), some (.ref ss), some (.ref es), some (.ref oo), some (.ref l), x7, x8, none] ∧ Ex [] H G ∧ G l = some (.lst xs) ∧ Tups K G xs ((M.st.take i).flatMap fun b => (sgn M.ab).map fun c => rwV ⟨b, c, (M.tb b c).1, (M.tb b c).2⟩)) ⟨l0, [], _, _, rfl, e02, z2, by simpa using Tups.nil⟩ (fun i σ G _ ⟨_, _, _, _, _, z, _⟩ => SqL.of (z.get0 h2)) ?_ ?_
  · rintro i x σ G G2 hi ⟨l, xs, x7, x8, rfl, e3, z3, t3⟩ ⟨rfl, hx⟩
    rw [List.length_map] at hi
    rw [List.getElem?_map, List.getElem?_eq_getElem hi] at hx
    cases hx
    have hin : M.st[i] ∈ M.st := List.getElem_mem hi
    have htk : M.st.take (i + 1) = M.st.take i ++ [M.st[i]] := by rw [List.take_add_one, List.getElem?_eq_getElem hi]; rfl
    rw [htk]
    generalize M.st[i] = b at hin
    walk_at "go"
    refine lc_tupsS (K := K) (by omega) (fun c => rwV ⟨b, c, (M.tb b c).1, (M.tb b c).2⟩) (fun c G3 C hc e4 kc => ?_) fun D G3 ys hD e4 z4 t4 => ?_
    · have hc' : c ∈ M.ab := (sgn_perm M.ab).mem_iff.mp hc
      walk_at "go"
      rename_i q1 G4 nq1 e5 z5
      refine s_dget ?_
      walk_at "go"
      rename_i q2 G5 nq2 e6 z6
      have e05 : Ex [] H G5 := (e3.trans e4).trans (e5.trans e6)
      refine s_getT (e05.get0 h3) (h4.ex0 e05) hin hc' z6 fun p hp => ?_
      refine s_catA (SqT.of (e6.get0 z5)) hp (by simp) (by simp) (by simp) fun z G6 nz e7 z7 => ?_
      exact kc _ _ ((e5.trans e6).trans e7) (SqT.of z7)
    have lx : xs.length ≤ 100 := by
      rw [t3.1]
      have : ∀ l : List (List Nat), l.length ≤ 6 → (l.flatMap fun b => (sgn M.ab).map fun c => rwV ⟨b, c, (M.tb b c).1, (M.tb b c).2⟩).length ≤ l.length * 4 := by
        intro l
        induction l with
        | nil => simp
        | cons a l ih =>
          intro h
          have := ih (by simp at h; omega)
          rw [List.flatMap_cons, List.length_append, List.length_map, List.length_cons]
          omega
      have := this (M.st.take i) (by rw [List.length_take]; omega)
      rw [List.length_take] at this
      omega
    have ly : ys.length ≤ 100 := by rw [t4.1, List.length_map]; omega
    refine s_cat (e4.get0 z3) z4 (Nat.le_trans (m := 1000) (by omega) (by decide)) fun u G4 nu e5 z5 => ?_
    walk_at "go"
    refine ⟨u, xs ++ ys, _, _, rfl, (e3.trans e4).trans e5, z5, ?_⟩
    rw [List.flatMap_append]
    refine ((t3.ex0 e4).ex0 e5).app ?_
    simpa using t4.ex0 e5
  · rintro σ G ⟨l, xs, x7, x8, rfl, e3, z3, t3⟩
    rw [List.length_map, List.take_length] at t3
    refine s_seq (s_asg (s_lc (s_iList (s_var rfl ?_))))
    refine s_iListA (xs := M.st.map vS) (SqL.of (e3.get0 h2)) ?_
    refine lc_tupsL (K := K) (SqL.of (e3.get0 h2)) (by omega) (fun b => tnV ⟨b, (M.en b).1, (M.en b).2⟩) (fun b G3 C hb e4 kc => ?_) fun D G3 ys hD e4 z4 t4 => ?_
    · walk_at "go"
      rename_i q1 G4 nq1 e5 z5
      refine s_dget ?_
      walk_at "go"
      have e04 : Ex [] H G4 := (e3.trans e4).trans e5
      refine s_getE (e04.get0 h5) (h6.ex0 e04) hb fun p hp => ?_
      refine s_catA (SqT.of z5) hp (by simp) (by simp) (by simp) fun z G6 nz e7 z7 => ?_
      exact kc _ _ (e5.trans e7) (SqT.of z7)
    refine s_gName ?_
    refine s_ret (s_tup (s_cons (s_var rfl (s_cons (s_cb (s_cons (s_var rfl (s_nil ?_))))))))
    have e04 := e3.trans e4
    refine s_tupOf (SqL.of (e04.get0 h2)) fun u1 G4 nu1 e5 z5 => ?_
    refine s_cons (s_cb (s_cons (s_var rfl (s_nil ?_))))
    refine s_tupOf (SqL.of ((e4.trans e5).get0 z3)) fun u2 G5 nu2 e6 z6 => ?_
    refine s_cons (s_cb (s_cons (s_var rfl (s_nil ?_))))
    refine s_tupOf (SqL.of ((e5.trans e6).get0 z4)) fun u3 G6 nu3 e7 z7 => ?_
    have e06 : Ex [] H G6 := e04.trans ((e5.trans e6).trans e7)
    refine s_cons (s_cb (s_cons (s_lc (s_iList (s_var rfl ?_)))))
    refine s_iListA (xs := M.st.map vS) (SqL.of (e06.get0 h2)) ?_
    refine lc_fm8 (SqL.of (e06.get0 h2)) (by omega) (fun b => decide (b ∈ M.ok)) vS (fun b G7 C1 C0 hb e8 k1 k0 => ?_) fun D2 G7 hD2 e8 z8 => ?_
    · walk_at "go"
      refine s_inL (SqL.of ((e06.trans e8).get0 h7)) ?_
      walk_at "go"
      refine s_2 (fun hb => ?_) (fun hb => ?_)
      · walk_at "go"
        exact k1 _ Ex.rfl hb
      · exact k0 _ Ex.rfl hb
    refine s_nil ?_
    refine s_tupOf (SqL.of z8) fun u4 G8 nu4 e9 z9 => ?_
    refine s_nil ?_
    refine s_alloc (by show 5 ≤ sizeLine; decide) fun p G9 np e10 z10 => ?_
    have eT : (rwsOf (fltM M)).map rwV = M.st.flatMap fun b => (sgn M.ab).map fun c => rwV ⟨b, c, (M.tb b c).1, (M.tb b c).2⟩ := by
      unfold rwsOf
      rw [List.map_flatMap]
      congr 1
      funext a
      rw [List.map_map]
      rfl
    have eU : (tnsOf (fltM M)).map tnV = M.st.map fun b => tnV ⟨b, (M.en b).1, (M.en b).2⟩ := by
      unfold tnsOf
      rw [List.map_map]
      rfl
    have e810 := e8.trans (e9.trans e10)
    refine k p G9 (e06.trans e810) ⟨u1, u2, u3, u4, SqT.of z10, SqT.of ((e6.trans (e7.trans e810)).get0 z5), ?_, ?_, SqT.of (e10.get0 z9)⟩
    · rw [eT]
      exact TupsAt.mk (SqT.of ((e7.trans e810).get0 z6)) (t3.ex0 (e4.trans (e5.trans (e6.trans (e7.trans e810)))))
    · rw [eU]
      exact TupsAt.mk (SqT.of (e810.get0 z7)) (t4.ex0 (e5.trans (e6.trans (e7.trans e810))))
theorem pure_Loop_yes (F : LoopK K) (h : sp_Loop_yes K vs H Q E) : t_Loop_yes K (E1 Q) (start ["self"] vs) H := by
  obtain ⟨x, rfl, M, hx, k⟩ := h
  show t_Loop_yes K (E1 Q) [some (.ref x)] H
  unfold t_Loop_yes
  walk_at "go"
  exact u_fMarked F hx k
theorem pure_law_shufU (h : sp_law_shufU K vs H Q E) : t_law_shufU K (E1 Q) (start ["_law_pool_here", "_law_things", "_law_rest", "_law_found", "_law_turn"] vs) H := by
  obtain ⟨a, v, rfl, l, hv, hl, hp, k⟩ := h
  show t_law_shufU K (E1 Q) [some (.ref a), some v, none, none, none] H
  unfold t_law_shufU
  walk_at "go"
  refine s_listU hv hl fun p1 H1 n1 e1 h1 => ?_
  walk_at "go"
  rename_i p2 H2 n2 e2 h2
  have ne12 : p2 ≠ p1 := fun z => by rw [z, h1] at n2; cases n2
  have ne1a : p1 ≠ a := fun z => hp.there (z ▸ n1)
  have ne2a : p2 ≠ a := fun z => (show PoolAt H1 a by walk_at "pool").there (z ▸ n2)
  have n20 : H p2 = none := e1.free n2
  refine s_lenU ((hv.ex0 e1).ex0 e2) hl ?_
  walk_at "go"
  refine for_rng (fun i σ H' => ∃ (r f : List V) (x4 : Option V), σ = [some (.ref a), some v, some (.ref p1), some (.ref p2), x4] ∧ r.length + i = l.length ∧ (f ++ r).Perm l ∧ H' p1 = some (.lst r) ∧ H' p2 = some (.lst f) ∧ Ex [a] H H' ∧ PoolAt H' a)
    ⟨l, [], _, rfl, rfl, List.Perm.refl _, by walk_at "hp", h2, by walk_at "exs", by walk_at "pool"⟩ ?_ ?_
  · rintro i _ H3 hi ⟨r, f, x4, rfl, hr, hf, h31, h32, e3, p3⟩
    have hi : i < l.length := by omega
    have hfl : f.length ≤ 600 := by have := hf.length_eq; rw [List.length_append] at this; omega
    walk_at "go"
    rename_i d H4 d0 d1 e4 p4
    have hdl : d.toNat < r.length := by omega
    have h41 : H4 p1 = some (.lst r) := by walk_at "hp"
    have h42 : H4 p2 = some (.lst f) := by walk_at "hp"
    refine s_popAt (i := d.toNat) (y := r[d.toNat]) h41 (by omega) (by omega) (List.getElem?_eq_getElem hdl) fun H5 e5 h51 => ?_
    walk_at "go"
    refine s_append (xs := f) (by walk_at "hp") (Nat.lt_of_le_of_lt hfl (by decide)) fun H6 e6 h62 => ?_
    walk_at "go"
    refine ⟨r.eraseIdx d.toNat, f ++ [r[d.toNat]], _, rfl, ?_, ?_, ?_, ?_, ?_, ?_⟩
    · rw [List.length_eraseIdx, if_pos hdl]; omega
    · rw [List.append_assoc]
      exact (List.Perm.append_left f (erase_perm hdl)).trans hf
    · walk_at "hp"
    · exact h62
    · exact Ex.dropM n20 (Ex.dropM n1 (e3.trans e4) e5) e6
    · have p5 : PoolAt H5 a := PoolAt.ex e5 (by simpa using Ne.symm ne1a) p4
      exact PoolAt.ex e6 (by simpa using Ne.symm ne2a) p5
  · rintro _ H3 ⟨r, f, x4, rfl, hr, hf, h31, h32, e3, p3⟩
    walk_at "go"
    have : r = [] := List.length_eq_zero_iff.mp (by omega)
    subst this
    rw [List.append_nil] at hf
    exact k f p2 H3 hf n20 e3 p3 h32
theorem pure_Loop_made (F : LoopK K) (h : sp_Loop_made K vs H Q E) : t_Loop_made K (E1 Q) (start ["cls", "row", "loop"] vs) H := by
  obtain ⟨q, rfl, M, hq, g, k⟩ := h
  show t_Loop_made K (E1 Q) [some (.ref (He.ga K "Loop")), some (.ref q), none] H
  unfold t_Loop_made
  obtain ⟨o, r, t, y, h1, h2, h3, h4, h5⟩ := id hq
  walk_at "go"
  refine u_row h1 ?_
  walk_at "go"
  refine s_nFd rfl ?_
  walk_at "go"
  refine s_makeLK rfl ?_
  walk_at "go"
  refine mk_loopG (M' := M) (st := M.st) (rs := rwsOf M) (ts := tnsOf M) (ys := M.ok) (s := M.ab) rfl rfl (fun x => rfl) g.g.ab h2 g.g.st h3 (good_rws g.g) h4 (good_tns g.g) h5 ⟨g.g.ok, ?_⟩ g.s.symm rfl (fun a ha c hc => ?_) (fun a ha => (en_tns a ha).symm) g.f.symm fun x H1 e1 hx => ?_
  · rw [← g.f]; exact g.g.st.2.2.1.sublist List.filter_sublist
  · rw [g.s] at hc; exact (tb_rws a ha c hc).symm
  walk_at "go"
  refine u_lrow hx g.g fun p H2 e2 r2 => ?_
  walk_at "go"
  refine s_neDd (n := 3) (m := 3) (by decide) (dd_row (n := 0) g.g (ok_len g) r2) (dd_row (n := 0) g.g (ok_len g) (hq.ex0 (e1.trans e2))) ?_
  walk_at "go"
  exact k x H2 (e1.trans e2) (hx.ex0 e2)
theorem pure_law_is_loop (h : sp_law_is_loop K vs H Q E) : t_law_is_loop K (E1 Q) (start ["_law_loop", "_law_line_here", "_law_told"] vs) H := by
  obtain ⟨x, p, rfl, M, hx, g, hp, k⟩ := h
  show t_law_is_loop K (E1 Q) [some (.ref x), some (.ref p), none] H
  unfold t_law_is_loop
  walk_at "go"
  refine u_lsigns hx ?_
  walk_at "go"
  refine u_lstates hx fun o ho => ?_
  walk_at "go"
  refine u_lrows hx g.g fun r H1 e1 hr => ?_
  walk_at "go"
  refine u_lturns (hx.ex0 e1) g.g fun t H2 e2 ht => ?_
  walk_at "go"
  refine u_lyes ((hx.ex0 e1).ex0 e2) fun y hy => ?_
  walk_at "go"
  rename_i td H3 ntd e3 h3
  have e13 := e2.trans e3
  have e03 := e1.trans e13
  have rt : LRowAt K H3 td M := ⟨o, r, t, y, SqT.of h3, e03.sqT (by simp) ho, hr.ex0 e13, ht.ex0 e3, e3.sqT (by simp) hy⟩
  have dr := dd_row (n := 2) g.g (ok_len g) rt
  refine u_face dr fun r4 H4 n4 e4 f4 => ?_
  walk_at "go"
  refine u_face (dd_row (n := 2) g.g (ok_len g) (hp.ex0 (e03.trans e4))) fun r5 H5 n5 e5 f5 => ?_
  refine s_eqFace (face_shaped (by decide) dr) (f4.ex0 e5) f5 ?_
  walk_at "go"
  have e05 := e03.trans (e4.trans e5)
  refine u_lrow (hx.ex0 e05) g.g fun p6 H6 e6 r6 => ?_
  walk_at "go"
  have dr6 := dd_row (n := 2) g.g (ok_len g) r6
  refine u_face dr6 fun r7 H7 n7 e7 f7 => ?_
  walk_at "go"
  refine u_face (dd_row (n := 2) g.g (ok_len g) (hp.ex0 (e05.trans (e6.trans e7)))) fun r8 H8 n8 e8 f8 => ?_
  refine s_eqFace (face_shaped (by decide) dr6) (f7.ex0 e8) f8 ?_
  exact k _ (e05.trans (e6.trans (e7.trans e8)))
theorem Tups.exP {a : Addr} {xs : List V} {ls : List (List V)} {H H' : Hp} (hp : PoolAt H a) (e : Ex [a] H H') (h : Tups K H xs ls) : Tups K H' xs ls := ⟨h.1, fun i x l h1 h2 => by
  obtain ⟨p, h3, h4⟩ := h.2 i x l h1 h2
  exact ⟨p, h3, sqT_pool hp e h4⟩⟩
theorem eqv_pl {l m : List V} (hl : ∀ v ∈ l, Pl v) (hm : ∀ v ∈ m, Pl v) : PyData.eqv (.tuple (l.map scD)) (.tuple (m.map scD)) = decide (l = m) := by
  by_cases e : l = m
  · subst e
    rw [decide_eq_true rfl]
    exact SeqAt.eqv_refl _ (lay_tup hl)
  · rw [decide_eq_false e]
    refine not_eqv fun z => e ?_
    rw [PyData.eqv] at z
    exact eqvAll_inj _ _ hl hm z
theorem s_nePl {p q : Addr} {l m : List V} (h1 : SqT K H p l) (h2 : SqT K H q m) (l1 : l.length ≤ 1000) (l2 : m.length ≤ 1000) (hl : ∀ v ∈ l, Pl v) (hm : ∀ v ∈ m, Pl v) (k : Q (.bl (!decide (l = m))) H) : rNeD K (.ref p) (.ref q) H Q := by
  have d1 := dd_tup1 (n := 0) h1 l1 (fun v hv => (hl v hv).sc)
  have d2 := dd_tup1 (n := 0) h2 l2 (fun v hv => (hm v hv).sc)
  refine ⟨_, _, Dd.dp _ _ _ d1, Dd.dp _ _ _ d2, Dd.shaped (by decide) d1, Dd.shaped (by decide) d2, ?_⟩
  rw [eqv_pl hl hm]
  exact k
theorem perm_map_inv {α : Type} (f : α → V) {xs ys : List V} (hp : ys.Perm xs) : ∀ {l : List α}, xs = l.map f → ∃ m : List α, m.Perm l ∧ ys = m.map f := by
  induction hp with
  | nil => exact fun {l} h => ⟨l, List.Perm.refl _, h⟩
  | cons x _ ih =>
    intro l h
    match l, h with
    | b :: l0, h =>
      obtain ⟨h1, h2⟩ := List.cons.inj h
      obtain ⟨m, m1, m2⟩ := ih h2
      exact ⟨b :: m, m1.cons b, by rw [m2, h1]; rfl⟩
  | swap x y l' =>
    intro l h
    match l, h with
    | b :: c :: l0, h =>
      obtain ⟨h1, h2⟩ := List.cons.inj h
      obtain ⟨h3, h4⟩ := List.cons.inj h2
      exact ⟨c :: b :: l0, List.Perm.swap b c l0, by rw [h1, h3, h4]; rfl⟩
  | trans _ _ ih1 ih2 =>
    intro l h
    obtain ⟨m, m1, m2⟩ := ih2 h
    obtain ⟨n, n1, n2⟩ := ih1 m2
    exact ⟨n, n1.trans m1, n2⟩
theorem flat_one : ∀ l : List Nat, (l.map fun c => [c]).flatten = l
  | [] => rfl
  | c :: l => by rw [List.map_cons, List.flatten_cons, flat_one l]; rfl
theorem pure_law_parts (h : sp_law_parts K vs H Q E) : t_law_parts K (E1 Q) (start ["_law_pool_here", "_law_model_here", "_law_line_here", "_law_ends", "_law_part", "_law_abc", "_law_lines"] vs) H := by
  obtain ⟨a, q, rfl, M, hq, m, hp, k⟩ := h
  show t_law_parts K (E1 Q) [some (.ref a), some (.ref q), none, none, none, none, none] H
  unfold t_law_parts
  have gs := good_srt m.g
  have l4 := m.g.ab.2.1
  have l6 := m.g.st.2.1
  walk_at "go"
  refine u_lineG hq m fun ln H1 e1 r1 => ?_
  have p1 := hp.ex e1 (by simp)
  obtain ⟨o, r, t, y, h1, h2, h3, h4, h5⟩ := id r1
  walk_at "go"
  obtain ⟨ts0, z1, z2, z3⟩ := id h4
  have zl : ts0.length = (tnsOf M).length := by rw [z2, List.length_map]; rfl
  have zn : (tnsOf M).length ≤ 6 := by unfold tnsOf; rw [List.length_map]; omega
  refine s_iTupA z1 ?_
  refine lc_run (walk_tup (xs := ts0)) (by omega) [a] (fun J => PoolAt J a) (fun i acc J => ∃ us : List Tn, Tups K J acc (us.map tnV) ∧ us.Sublist ((tnsOf M).take i) ∧ ∀ u ∈ (tnsOf M).take i, u ∉ us → (u.b, u.n) = (u.a, 0)) (fun z hz => by rw [List.mem_singleton.mp hz]; exact p1.there) p1 ⟨[], Tups.nil, by simp, by simp⟩ (fun J D o nD rr => rr.upd nD) (fun i acc J D o hd ⟨us, u1, u2, u3⟩ => ⟨us, u1.upd hd, u2, u3⟩) (fun J e => sqT_pool p1 e z1) ?_ ?_
  · rintro i acc x J J2 C1 C0 hi e pJ ⟨us, u1, u2, u3⟩ ⟨rfl, hx⟩ k1 k0
    have hti : i < (tnsOf M).length := by omega
    have htk : (tnsOf M).take (i + 1) = (tnsOf M).take i ++ [(tnsOf M)[i]] := by rw [List.take_add_one, List.getElem?_eq_getElem hti]; rfl
    obtain ⟨p, rfl, hpt⟩ := z3 i x (tnV (tnsOf M)[i]) hx (by show ((tnsOf M).map tnV)[i]? = _; rw [List.getElem?_map, List.getElem?_eq_getElem hti]; rfl)
    have hin : (tnsOf M)[i] ∈ tnsOf M := List.getElem_mem hti
    rw [htk] at k1 k0
    generalize (tnsOf M)[i] = tn at hpt hin k1 k0
    have hpt2 := sqT_pool p1 e hpt
    have pls : ∀ v ∈ tnV tn, Pl v := pl_tns m.g _ (List.mem_map.mpr ⟨tn, hin, rfl⟩)
    have kk1 : ∀ J5, Ex [a] J2 J5 → PoolAt J5 a → C1 (.ref p) J5 := fun J5 e5 p5 => k1 _ J5 e5 p5 ⟨us ++ [tn], by rw [List.map_append]; exact (u1.exP pJ e5).snoc (sqT_pool pJ e5 hpt2), u2.append (List.Sublist.refl _), fun u hu hn => by
      rcases List.mem_append.mp hu with h | h
      · exact u3 u h fun z => hn (List.mem_append_left _ z)
      · exact absurd (List.mem_append_right _ h) hn⟩
    have kk0 : ∀ J5, Ex [a] J2 J5 → PoolAt J5 a → (tn.b, tn.n) = (tn.a, (0 : Int)) → C0 J5 := fun J5 e5 p5 he => k0 J5 e5 p5 ⟨us, u1.exP pJ e5, u2.trans (List.sublist_append_left _ _), fun u hu hn => by
      rcases List.mem_append.mp hu with h | h
      · exact u3 u h hn
      · rw [List.mem_singleton.mp h]; exact he⟩
    refine ⟨wipe1 _ _ _, ?_⟩
    walk_at "go"
    refine s_slA hpt2 fun c1 J3 e3 s3 => ?_
    rw [show cutV (tnV tn) (some 1) none = [vS tn.b, .int tn.n] from cut_tail] at s3
    have hpt3 := e3.sqT (by simp) hpt2
    walk_at "go"
    rename_i c2 J4 nc2 e4 s4
    have e34 := e3.trans e4
    refine s_nePl (e4.sqT (by simp) s3) (SqT.of s4) (by simp) (by simp) (fun v hv => pls v (List.mem_cons_of_mem _ hv)) (fun v hv => ?_) ?_
    · simp only [List.mem_cons, List.not_mem_nil, or_false] at hv
      rcases hv with rfl | rfl
      · exact pls _ List.mem_cons_self
      · exact .inl ⟨_, rfl⟩
    by_cases he : [vS tn.b, V.int tn.n] = [vS tn.a, .int 0]
    · rw [decide_eq_true he]
      have he2 : (tn.b, tn.n) = (tn.a, (0 : Int)) := by
        obtain ⟨h1, h2⟩ := List.cons.inj he
        rw [S_inj (V.str.inj h1), V.int.inj (List.cons.inj h2).1]
      have pJ4 := pJ.ex e34 (by simp)
      walk_at "go"
      rename_i d J5 d0 d1 e5 p5
      have e35 : Ex [a] J2 J5 := e34.wide.trans e5
      refine s_2 (fun hd => ?_) (fun hd => ?_)
      · walk_at "go"
        exact kk1 J5 e35 p5
      · exact kk0 J5 e35 p5 he2
    · rw [decide_eq_false he]
      walk_at "go"
      exact kk1 J4 e34.wide (pJ.ex e34 (by simp))
  · rintro D J ys hD e pJ hd hl ⟨us, u1, u2, u3⟩
    rw [zl, List.take_length] at u2
    have u3 : ∀ u ∈ tnsOf M, u ∉ us → (u.b, u.n) = (u.a, (0 : Int)) := fun u hu => u3 u (by rw [zl, List.take_length]; exact hu)
    have tn6 : us.length ≤ 6 := Nat.le_trans u2.length_le zn
    walk_at "go"
    have r2 := r1.exP p1 e
    obtain ⟨o2, rr2, t2, y2, w1, w2, w3, w4, w5⟩ := id r2
    refine s_ixT w1 (by exact rfl) ?_
    walk_at "go"
    refine u_shufU (xs := (sgn M.ab).map fun c => vS [c]) (.inl ⟨sgn M.ab, rfl, rfl⟩) (by rw [List.length_map, (sgn_perm M.ab).length_eq]; omega) pJ fun ys1 q1 J1 perm1 nq1 ee1 pp1 hq1 => ?_
    obtain ⟨s, s1, rfl⟩ := perm_map_inv (fun c => vS [c]) perm1 rfl
    have sl : s.length ≤ 4 := by rw [s1.length_eq, (sgn_perm M.ab).length_eq]; omega
    refine s_join0 (ls := s.map fun c => [c]) (SqL.of (by rw [hq1, List.map_map]; rfl)) (by rw [flat_one]; exact Nat.le_trans sl (by decide)) ?_
    rw [flat_one]
    walk_at "go"
    have e01 := e.trans ee1
    obtain ⟨o3, rr3, t3, y3, v1, v2, v3, v4, v5⟩ := r1.exP p1 e01
    refine s_ixT v1 (by exact rfl) ?_
    walk_at "go"
    obtain ⟨xr, xr1, xr2, xr3⟩ := v3
    refine u_shufU (xs := xr) (.inr ⟨rr3, rfl, .inr xr1⟩) (by have := rws_len4 gs; rw [xr2, List.length_map]; omega) pp1 fun ys2 q2 J2 perm2 nq2 ee2 pp2 hq2 => ?_
    obtain ⟨rs, rs1, rs2⟩ := tups_perm rwV perm2 (Tups.exP pp1 ee2 ⟨xr2, xr3⟩)
    walk_at "go"
    refine s_tupOf (SqL.of hq2) fun lns J3 nu2 ee3 hu2 => ?_
    have pp3 := pp2.ex ee3 (by simp)
    have rs3 := rs2.ex0 ee3
    have e03 := e01.trans (ee2.trans ee3.wide)
    have eJ3 := ee1.trans (ee2.trans ee3.wide)
    walk_at "go"
    obtain ⟨o4, rr4, t4, y4, x1, x2, x3, x4, x5⟩ := r1.exP p1 e03
    refine s_ixT x1 (by exact rfl) ?_
    walk_at "go"
    have hDa : D ∉ [a] := by simp only [List.mem_singleton]; exact fun z => p1.there (z ▸ hD)
    refine u_shufU (xs := ys) (.inr ⟨D, rfl, .inl (SqL.of (eJ3.get hDa hd))⟩) (by rw [u1.1, List.length_map]; omega) pp3 fun ys3 q3 J4 perm3 nq3 ee4 pp4 hq3 => ?_
    obtain ⟨ts, ts1, ts2⟩ := tups_perm tnV perm3 (Tups.exP pJ (eJ3.trans ee4) u1)
    walk_at "go"
    refine s_tupOf (SqL.of hq3) fun ends J5 nu3 ee5 hu3 => ?_
    have pp5 := pp4.ex ee5 (by simp)
    have ts3 := ts2.ex0 ee5
    have e35 : Ex [a] J3 J5 := ee4.trans ee5.wide
    have e05 := e03.trans e35
    have rs4 := rs3.exP pp3 e35
    have hu2' := sqT_pool pp3 e35 (SqT.of (K := K) hu2)
    have x2' := sqT_pool pp3 e35 x2
    walk_at "go"
    obtain ⟨o5, rr5, t5, y5, a1, a2, a3, a4, a5⟩ := r1.exP p1 e05
    refine s_ixT a1 (by exact rfl) ?_
    walk_at "go"
    have okl : M.ok.length ≤ 6 := by rw [← m.f]; exact Nat.le_trans (List.length_filter_le _ _) l6
    refine u_shufU (xs := M.ok.map vS) (.inr ⟨y5, rfl, .inr a5⟩) (by rw [List.length_map]; omega) pp5 fun ys4 q4 J6 perm4 nq4 ee6 pp6 hq4 => ?_
    obtain ⟨yl, yl1, rfl⟩ := perm_map_inv vS perm4 rfl
    walk_at "go"
    refine s_tupOf (SqL.of hq4) fun oks J7 nu4 ee7 hu4 => ?_
    have pp7 := pp6.ex ee7 (by simp)
    have e57 : Ex [a] J5 J7 := ee6.trans ee7.wide
    have e07 := e05.trans e57
    walk_at "go"
    rename_i pr J8 npr ee8 hpr
    have e58 : Ex [a] J5 J8 := e57.trans ee8.wide
    have tnn : (tnsOf M).Nodup := List.Pairwise.of_map _ (fun a b h z => h (congrArg _ z)) (good_tns m.g).2
    refine k pr s rs ts yl J8 ((e1.wide.trans e07).trans ee8.wide) (pp7.ex ee8 (by simp)) ⟨s1.trans (sgn_perm M.ab), rs1, ⟨ts1.nodup_iff.mpr (tnn.sublist u2), fun t ht => u2.subset (ts1.mem_iff.mp ht), fun t ht hn => ?_⟩, yl1⟩ ⟨o4, lns, ends, oks, hpr, sqT_pool pp5 e58 x2', TupsAt.mk (sqT_pool pp5 e58 hu2') (rs4.exP pp5 e58), TupsAt.mk (sqT_pool pp5 e58 (SqT.of hu3)) (ts3.exP pp5 e58), ee8.sqT (by simp) (SqT.of hu4)⟩
    exact u3 t ht fun z => hn (ts1.mem_iff.mpr z)
theorem s_listOfT {b : Addr} {xs : List V} (h : SqT K H b xs) (k : ∀ q H2, H q = none → Ex [] H H2 → H2 q = some (.lst xs) → Q (.ref q) H2) : rListOf K [.ref b] H Q := ⟨b, xs, rfl, .inr h, s_new k⟩
theorem s_neBB {a b : Bool} (k : Q (.bl (a != b)) H) : rNe (.bl a) (.bl b) H Q := ⟨rfl, by
  have : (!decide (V.bl a = V.bl b)) = (a != b) := by cases a <;> cases b <;> rfl
  rw [this]; exact k⟩
theorem Tups.set {xs : List V} {ls : List (List V)} {i : Nat} {p : Addr} {l : List V} (h : Tups K H xs ls) (hp : SqT K H p l) : Tups K H (xs.set i (.ref p)) (ls.set i l) := ⟨by simp [h.1], fun j x m h1 h2 => by
  by_cases hj : i = j
  · subst hj
    have hl : i < xs.length := by have := (List.getElem?_eq_some_iff.mp h1).1; simpa using this
    rw [List.getElem?_set_self hl] at h1
    rw [List.getElem?_set_self (by rw [← h.1]; exact hl)] at h2
    cases h1; cases h2
    exact ⟨p, rfl, hp⟩
  · rw [List.getElem?_set_ne hj] at h1 h2
    exact h.2 j x m h1 h2⟩
theorem Tups.exL {xs ys : List V} {ls : List (List V)} {D : Addr} {H' : Hp} (hd : H D = some (.lst ys)) (e : Ex [D] H H') (h : Tups K H xs ls) : Tups K H' xs ls := ⟨h.1, fun i x l h1 h2 => by
  obtain ⟨p, h3, h4⟩ := h.2 i x l h1 h2
  exact ⟨p, h3, sqT_lst hd e h4⟩⟩
theorem LRowAt.exL {p D : Addr} {ys : List V} {M : LM} {H' : Hp} (hd : H D = some (.lst ys)) (e : Ex [D] H H') (h : LRowAt K H p M) : LRowAt K H' p M := by
  obtain ⟨o, r, t, y, h1, h2, ⟨x3, h3, h3'⟩, ⟨x4, h4, h4'⟩, h5⟩ := h
  have w3 := Tups.exL (K := K) hd e h3'
  have w4 := Tups.exL (K := K) hd e h4'
  exact ⟨o, r, t, y, sqT_lst hd e h1, sqT_lst hd e h2, TupsAt.mk (sqT_lst hd e h3) w3, TupsAt.mk (sqT_lst hd e h4) w4, sqT_lst hd e h5⟩
theorem pure_law_other (h : sp_law_other K vs H Q E) : t_law_other K (E1 Q) (start ["_law_pool_here", "_law_model_here", "_law_line_here", "_law_way", "_law_lines", "_law_ends", "_law_oks", "_law_at", "_law_k", "_law_post", "_law_posts", "_law_later"] vs) H := by
  obtain ⟨a, q, rfl, M, hq, m, hp, k⟩ := h
  show t_law_other K (E1 Q) [some (.ref a), some (.ref q), none, none, none, none, none, none, none, none, none, none] H
  unfold t_law_other
  have gs := good_srt m.g
  have gl := m.gl
  have l4 := m.g.ab.2.1
  have l6 := m.g.st.2.1
  have l1 := m.g.st.1
  walk_at "go"
  refine u_lineG hq m fun ln H1 e1 r1 => ?_
  have p1 := hp.ex e1 (by simp)
  walk_at "go"
  rename_i way H2 w0 w1 e2 p2
  obtain ⟨o2, rr2, t2, y2, v1, v2, v3, v4, v5⟩ := r1.exP p1 e2
  refine s_ixT v1 (by exact rfl) ?_
  walk_at "go"
  obtain ⟨xr, xr1, xr2⟩ : ∃ xr, SqT K H2 rr2 xr ∧ Tups K H2 xr ((rwsOf (srtM M)).map rwV) := id v3
  refine s_listOfT xr1 fun L1 H3 nL1 e3 hL1 => ?_
  walk_at "go"
  obtain ⟨xt, xt1, xt2⟩ : ∃ xt, SqT K H3 t2 xt ∧ Tups K H3 xt ((tnsOf (srtM M)).map tnV) := v4.ex0 e3
  refine s_listOfT xt1 fun L2 H4 nL2 e4 hL2 => ?_
  walk_at "go"
  refine s_listOfT ((e3.trans e4).sqT (by simp) v5) fun L3 H5 nL3 e5 hL3 => ?_
  walk_at "go"
  have lr1 : 1 ≤ xr.length := by
    rw [xr2.1, List.length_map, (good_rws gs).2.2]
    exact Nat.mul_pos (by show 0 < (sgn M.ab).length; rw [(sgn_perm M.ab).length_eq]; exact (isWord_len m.g.ab.1).1) l1
  have lr2 : xr.length ≤ 24 := by rw [xr2.1, List.length_map]; exact rws_len4 gs
  have lt1 : xt.length = M.st.length := by rw [xt2.1, List.length_map]; unfold tnsOf; rw [List.length_map]; rfl
  walk_at "go"
  rename_i tp0 H6 ntp0 e6 h6 iA H7 at0 at1 e7 p7
  have n2 : L2 ∉ [a] := by simp only [List.mem_singleton]; exact fun z => p2.there (z ▸ e3.free nL2)
  refine s_lenL (xs := xt) (SqL.of ((show Ex [a] H4 H7 from (e5.trans e6).wide.trans e7).get n2 hL2)) ?_
  walk_at "go"
  rename_i iK H8 ik0 ik1 e8 p8 tp1 H9 ntp1 e9 h9
  have e46 := e5.trans e6
  have e36 := e4.trans e46
  have e26 := e3.trans e36
  have e69 : Ex [a] H6 H9 := e7.trans (e8.trans e9.wide)
  have n1 : L1 ∉ [a] := by simp only [List.mem_singleton]; exact fun z => p2.there (z ▸ nL1)
  have n3 : L3 ∉ [a] := by simp only [List.mem_singleton]; exact fun z => p2.there (z ▸ (e3.trans e4).free nL3)
  have n12 : L2 ≠ L1 := fun z => by rw [z, hL1] at nL2; cases nL2
  have n13 : L3 ≠ L1 := fun z => by rw [z, e4.get0 hL1] at nL3; cases nL3
  have n23 : L3 ≠ L2 := fun z => by rw [z, hL2] at nL3; cases nL3
  have b1 : H9 L1 = some (.lst xr) := (show Ex [a] H3 H9 from e36.wide.trans e69).get n1 hL1
  have b2 : H9 L2 = some (.lst xt) := (show Ex [a] H4 H9 from e46.wide.trans e69).get n2 hL2
  have b3 : H9 L3 = some (.lst (M.ok.map vS)) := (show Ex [a] H5 H9 from e6.wide.trans e69).get n3 hL3
  have e29 : Ex [a] H2 H9 := e26.wide.trans e69
  have r9 : LRowAt K H9 ln (srtM M) := r1.exP p1 (e2.trans e29)
  have c1 : Tups K H9 xr ((rwsOf (srtM M)).map rwV) := xr2.exP p2 e29
  have c2 : Tups K H9 xt ((tnsOf (srtM M)).map tnV) := xt2.exP (p2.ex e3 (by simp)) (e36.wide.trans e69)
  have pF : PoolAt H9 a := p8.ex e9 (by simp)
  have EF : Ex [a] H H9 := e1.wide.trans (e2.trans e29)
  have eH2 : Ex [a] H H2 := e1.wide.trans e2
  have free : ∀ L : Addr, L ∉ [a] → H2 L = none → H L = none := fun L nn hz => by
    cases z : H L with
    | none => rfl
    | some o =>
      have := eH2.get nn z
      rw [hz] at this
      cases this
  have fL1 : H L1 = none := free L1 n1 nL1
  have fL2 : H L2 = none := free L2 n2 (e3.free nL2)
  have hq9 : MAt K H9 q M := hq.exP hp EF
  have lA : iA.toNat < xr.length := by omega
  have lK : iK.toNat < M.st.length := by omega
  clear free eH2 e1 e2 e3 e4 e5 e6 e7 e8 e9 e46 e36 e26 e69 e29 hL1 hL2 hL3 nL1 nL2 nL3 h6 h9 ntp0 ntp1 v1 v2 v3 v4 v5 xr1 xr2 xt1 xt2 r1 hq hp p1 p2 p7 p8
  have lA2 : iA.toNat < (rwsOf (srtM M)).length := by have := c1.1; rw [List.length_map] at this; omega
  have lK2 : iK.toNat < (tnsOf (srtM M)).length := by have := c2.1; rw [List.length_map] at this; omega
  obtain ⟨rw1, hrw⟩ : ∃ r, (rwsOf (srtM M))[iA.toNat]? = some r := ⟨_, List.getElem?_eq_getElem lA2⟩
  obtain ⟨tn1, htn⟩ : ∃ r, (tnsOf (srtM M))[iK.toNat]? = some r := ⟨_, List.getElem?_eq_getElem lK2⟩
  have mrw := List.mem_of_getElem? hrw
  have mtn := List.mem_of_getElem? htn
  have xA : xr[iA.toNat]? = some xr[iA.toNat] := List.getElem?_eq_getElem lA
  obtain ⟨pA, hpA, sA⟩ := c1.2 iA.toNat _ (rwV rw1) xA (by rw [List.getElem?_map, hrw]; rfl)
  rw [hpA] at xA
  have xK : xt[iK.toNat]? = some (xt[iK.toNat]'(by omega)) := List.getElem?_eq_getElem (by omega)
  obtain ⟨pK, hpK, sK⟩ := c2.2 iK.toNat _ (tnV tn1) xK (by rw [List.getElem?_map, htn]; rfl)
  rw [hpK] at xK
  obtain ⟨q1, q2, q3⟩ := mem_rws mrw
  have gr := good_rws gs
  have q4 := gr.1 rw1 mrw
  have gt := good_tns (M := srtM M) gs
  have q5 := gt.1 tn1 mtn
  have setR : ∀ (b : List Nat) (n : Int), (rwsOf (chM (srtM M) (.row rw1.a rw1.c b n))) = (rwsOf (srtM M)).set iA.toNat ⟨rw1.a, rw1.c, b, n⟩ := fun b n => by
    rw [rws_row, set_map (fun r => (r.a, r.c)) _ _ _ _ gr.2.1 hrw]
    apply List.map_congr_left
    intro r _
    by_cases h : r.a = rw1.a ∧ r.c = rw1.c
    · rw [if_pos h, if_pos (Prod.ext h.1 h.2)]
    · rw [if_neg h, if_neg fun z => h ⟨(Prod.mk.inj z).1, (Prod.mk.inj z).2⟩]
  have setT : ∀ (b : List Nat) (n : Int), (tnsOf (chM (srtM M) (.turn tn1.a b n))) = (tnsOf (srtM M)).set iK.toNat ⟨tn1.a, b, n⟩ := fun b n => by
    rw [tns_turn, set_map (fun r => r.a) _ _ _ _ gt.2 htn]
  have neR : ∀ {b : List Nat} {n : Int} {G : Prop}, (rwsOf (chM (srtM M) (.row rw1.a rw1.c b n))).map rwV = (rwsOf (srtM M)).map rwV → (b = rw1.b ∧ n = rw1.n → G) → G := fun {b n G} z kk => by
    have := congrArg (fun l => l[iA.toNat]?) z
    simp only [setR, List.getElem?_map, List.getElem?_set_self lA2, hrw, Option.map_some, Option.some.injEq, rwV, List.cons.injEq, V.int.injEq] at this
    exact kk ⟨S_inj (V.str.inj this.2.2.1), this.2.2.2.1⟩
  rcases (show way = 0 ∨ way = 1 ∨ way = 2 ∨ way = 3 ∨ way = 4 by omega) with rfl | rfl | rfl | rfl | rfl
  · have gl' : GL (chM (srtM M) (.row rw1.a rw1.c rw1.b (rw1.n + 1))) := gl_ch gl ⟨q4.1, q4.2.1, q4.2.2⟩
    walk_at "go"
    refine s_ixL (SqL.of b1) (atI_of at0 xA) ?_
    walk_at "go"
    refine s_slA sA fun c5 G5 e5 s5 => ?_
    rw [show cutV (rwV rw1) none (some 3) = [vS rw1.a, vS [rw1.c], vS rw1.b] by rw [cutV_to (by decide)]; rfl] at s5
    have b1' := e5.get0 b1
    have sA' := e5.sqT (by simp) sA
    walk_at "go"
    refine s_ixL (SqL.of b1') (atI_of at0 xA) ?_
    walk_at "go"
    rename_i c6 G6 nc6 e6 s6
    refine s_catB (e6.sqT (by simp) s5) (SqT.of s6) (by simp) fun c7 G7 e7 s7 => ?_
    have s7 : SqT K G7 c7 (rwV ⟨rw1.a, rw1.c, rw1.b, rw1.n + 1⟩) := s7
    walk_at "go"
    have e57 := e5.trans (e6.trans e7)
    refine s_setL (e57.get0 b1) (j := iA.toNat) (by unfold ixN; rw [if_pos at0, if_pos (by omega)]) fun G8 e8 z8 => ?_
    have d1 := e57.get0 b1
    have rF : LRowAt K G8 ln (srtM M) := (r9.ex0 e57).exL d1 e8
    have b2 : G8 L2 = some (.lst xt) := e8.get (by simpa using n12) (e57.get0 b2)
    have b3 : G8 L3 = some (.lst (M.ok.map vS)) := e8.get (by simpa using n13) (e57.get0 b3)
    have b1 := z8
    have c1 : Tups K G8 (xr.set iA.toNat (.ref c7)) ((rwsOf (chM (srtM M) (.row rw1.a rw1.c rw1.b (rw1.n + 1)))).map rwV) := by
      rw [setR, List.map_set]
      exact ((Tups.ex0 e57 c1).set s7).exL d1 e8
    have c2 : Tups K G8 xt ((tnsOf (srtM M)).map tnV) := (Tups.ex0 e57 c2).exL d1 e8
    have pF : PoolAt G8 a := (pF.ex e57 (by simp)).ex e8 (by simpa using fun z => n1 (by simp [z]))
    have EF : Ex [a] H G8 := Ex.dropM fL1 (EF.trans e57.wide) e8
    clear xA sA' b1' e5 e6 e7 e57 e8 z8
    obtain ⟨fo, fr, ft, fy, f1, f2, f3, f4, f5⟩ := id rF
    walk_at "go"
    refine s_tupOf (SqL.of b1) fun u1 G1 nu1 g1 z1 => ?_
    walk_at "go"
    refine s_tupOf (SqL.of (g1.get0 b2)) fun u2 G2 nu2 g2 z2 => ?_
    walk_at "go"
    refine s_tupOf (SqL.of ((g1.trans g2).get0 b3)) fun u3 G3 nu3 g3 z3 => ?_
    walk_at "go"
    rename_i pr G4 npr g4 z4
    have g04 := g1.trans (g2.trans (g3.trans g4))
    refine k pr (chM (srtM M) (.row rw1.a rw1.c rw1.b (rw1.n + 1))) G4 (EF.trans g04.wide) (pF.ex g04 (by simp)) ⟨fo, u1, u2, u3, SqT.of z4, g04.sqT (by simp) f2, TupsAt.mk ((g2.trans (g3.trans g4)).sqT (by simp) (SqT.of z1)) (Tups.ex0 g04 c1), TupsAt.mk ((g3.trans g4).sqT (by simp) (SqT.of z2)) (Tups.ex0 g04 c2), g4.sqT (by simp) (SqT.of z3)⟩ gl' (not_eqv fun zz => ?_)
    exact neR (lrow_inj gl' gl zz).2.1 fun w => by omega
  · have gl' : GL (chM (srtM M) (.turn tn1.a tn1.b (tn1.n - 1))) := gl_ch gl ⟨q5.1, q5.2⟩
    walk_at "go"
    refine s_ixL (SqL.of b2) (atI_of ik0 xK) ?_
    walk_at "go"
    refine s_slA sK fun c5 G5 e5 s5 => ?_
    rw [show cutV (tnV tn1) none (some 2) = [vS tn1.a, vS tn1.b] by rw [cutV_to (by decide)]; rfl] at s5
    have b2' := e5.get0 b2
    have sK' := e5.sqT (by simp) sK
    walk_at "go"
    refine s_ixL (SqL.of b2') (atI_of ik0 xK) ?_
    walk_at "go"
    rename_i c6 G6 nc6 e6 s6
    refine s_catB (e6.sqT (by simp) s5) (SqT.of s6) (by simp) fun c7 G7 e7 s7 => ?_
    have s7 : SqT K G7 c7 (tnV ⟨tn1.a, tn1.b, tn1.n - 1⟩) := s7
    walk_at "go"
    have e57 := e5.trans (e6.trans e7)
    refine s_setL (e57.get0 b2) (j := iK.toNat) (by unfold ixN; rw [if_pos ik0, if_pos (by omega)]) fun G8 e8 z8 => ?_
    have d2 := e57.get0 b2
    have rF : LRowAt K G8 ln (srtM M) := (r9.ex0 e57).exL d2 e8
    have b1 : G8 L1 = some (.lst xr) := e8.get (by simpa using Ne.symm n12) (e57.get0 b1)
    have b3 : G8 L3 = some (.lst (M.ok.map vS)) := e8.get (by simpa using n23) (e57.get0 b3)
    have b2 := z8
    have c2 : Tups K G8 (xt.set iK.toNat (.ref c7)) ((tnsOf (chM (srtM M) (.turn tn1.a tn1.b (tn1.n - 1)))).map tnV) := by
      rw [setT, List.map_set]
      exact ((Tups.ex0 e57 c2).set s7).exL d2 e8
    have c1 : Tups K G8 xr ((rwsOf (srtM M)).map rwV) := (Tups.ex0 e57 c1).exL d2 e8
    have pF : PoolAt G8 a := (pF.ex e57 (by simp)).ex e8 (by simpa using fun z => n2 (by simp [z]))
    have EF : Ex [a] H G8 := Ex.dropM fL2 (EF.trans e57.wide) e8
    clear xK sK' b2' e5 e6 e7 e57 e8 z8
    obtain ⟨fo, fr, ft, fy, f1, f2, f3, f4, f5⟩ := id rF
    walk_at "go"
    refine s_tupOf (SqL.of b1) fun u1 G1 nu1 g1 z1 => ?_
    walk_at "go"
    refine s_tupOf (SqL.of (g1.get0 b2)) fun u2 G2 nu2 g2 z2 => ?_
    walk_at "go"
    refine s_tupOf (SqL.of ((g1.trans g2).get0 b3)) fun u3 G3 nu3 g3 z3 => ?_
    walk_at "go"
    rename_i pr G4 npr g4 z4
    have g04 := g1.trans (g2.trans (g3.trans g4))
    refine k pr (chM (srtM M) (.turn tn1.a tn1.b (tn1.n - 1))) G4 (EF.trans g04.wide) (pF.ex g04 (by simp)) ⟨fo, u1, u2, u3, SqT.of z4, g04.sqT (by simp) f2, TupsAt.mk ((g2.trans (g3.trans g4)).sqT (by simp) (SqT.of z1)) (Tups.ex0 g04 c1), TupsAt.mk ((g3.trans g4).sqT (by simp) (SqT.of z2)) (Tups.ex0 g04 c2), g4.sqT (by simp) (SqT.of z3)⟩ gl' (not_eqv fun zz => ?_)
    have := congrArg (fun l => l[iK.toNat]?) (lrow_inj gl' gl zz).2.2.1
    simp only [setT, List.getElem?_map, List.getElem?_set_self lK2, htn, Option.map_some, Option.some.injEq, tnV, List.cons.injEq, V.int.injEq] at this
    omega
  · obtain ⟨fo, fr, ft, fy, f1, f2, f3, f4, f5⟩ := id r9
    have hst : M.st[iK.toNat]? = some M.st[iK.toNat] := List.getElem?_eq_getElem lK
    have hpr : ∃ f : List Nat → Bool, f = fun b => decide (b ∈ M.ok) != decide (b = M.st[iK.toNat]) := ⟨_, rfl⟩
    obtain ⟨f, hf⟩ := hpr
    have gl' : GL { srtM M with ok := (srtM M).st.filter f } := gl_ok gl f
    walk_at "go"
    refine lc_fmT f2 (by show M.st.length ≤ _; omega) f vS (fun b G C1 C0 hb eG kk1 kk0 => ?_) fun D G6 hD e6 h6 => ?_
    · have f1' := eG.sqT (by simp) f1
      have f2' := eG.sqT (by simp) f2
      walk_at "go"
      refine s_inL (SqL.of (eG.get0 b3)) ?_
      walk_at "go"
      refine s_ixT (v := vS M.st[iK.toNat]) f2' (atI_of ik0 (by show (M.st.map vS)[iK.toNat]? = _; rw [List.getElem?_map, hst]; rfl)) ?_
      walk_at "go"
      refine s_neBB ?_
      walk_at "go"
      refine s_2 (fun hz => ?_) (fun hz => ?_)
      · walk_at "go"
        exact kk1 _ Ex.rfl (by rw [hf]; exact hz)
      · exact kk0 _ Ex.rfl (by rw [hf]; exact hz)
    have rF : LRowAt K G6 ln (srtM M) := r9.ex0 e6
    have b1 := e6.get0 b1
    have b2 := e6.get0 b2
    have b3 := h6
    have c1 := Tups.ex0 e6 c1
    have c2 := Tups.ex0 e6 c2
    have pF : PoolAt G6 a := pF.ex e6 (by simp)
    have EF : Ex [a] H G6 := EF.trans e6.wide
    clear e6 h6 fo fr ft fy f1 f2 f3 f4 f5
    obtain ⟨fo, fr, ft, fy, f1, f2, f3, f4, f5⟩ := id rF
    walk_at "go"
    refine s_tupOf (SqL.of b1) fun u1 G1 nu1 g1 z1 => ?_
    walk_at "go"
    refine s_tupOf (SqL.of (g1.get0 b2)) fun u2 G2 nu2 g2 z2 => ?_
    walk_at "go"
    refine s_tupOf (SqL.of ((g1.trans g2).get0 b3)) fun u3 G3 nu3 g3 z3 => ?_
    walk_at "go"
    rename_i pr G4 npr g4 z4
    have g04 := g1.trans (g2.trans (g3.trans g4))
    refine k pr { srtM M with ok := (srtM M).st.filter f } G4 (EF.trans g04.wide) (pF.ex g04 (by simp)) ⟨fo, u1, u2, u3, SqT.of z4, g04.sqT (by simp) f2, TupsAt.mk ((g2.trans (g3.trans g4)).sqT (by simp) (SqT.of z1)) (Tups.ex0 g04 c1), TupsAt.mk ((g3.trans g4).sqT (by simp) (SqT.of z2)) (Tups.ex0 g04 c2), g4.sqT (by simp) (SqT.of z3)⟩ gl' (not_eqv fun zz => ?_)
    have h4 : M.st.filter f = M.ok := (lrow_inj gl' gl zz).2.2.2
    have hin : M.st[iK.toNat] ∈ M.st := List.getElem_mem lK
    have h5 : M.st[iK.toNat] ∈ M.st.filter f ↔ M.st[iK.toNat] ∈ M.ok := by rw [h4]
    rw [List.mem_filter, hf] at h5
    by_cases hk : M.st[iK.toNat] ∈ M.ok <;> simp [hk, hin] at h5
  · obtain ⟨fo, fr, ft, fy, f1, f2, f3, f4, f5⟩ := id r9
    obtain ⟨po, ss, es, oo, kt, ke, z1, z2, z3, z4, z5, z6, z7⟩ := id hq9
    walk_at "go"
    by_cases h1 : M.st.length = 1
    · refine s_T (decide_eq_true (by rw [List.length_map]; show (M.st.length : Int) = 1; omega)) ?_
      walk_at "go"
      refine s_slA f1 fun c5 G5 e5 s5 => ?_
      rw [show cutV [vS (srtM M).ab, V.ref fo, V.ref fr, V.ref ft, V.ref fy] none (some 4) = [vS (srtM M).ab, V.ref fo, V.ref fr, V.ref ft] by rw [cutV_to (by decide)]; rfl] at s5
      have f1' := e5.sqT (by simp) f1
      have f2' := e5.sqT (by simp) f2
      have b3' := e5.get0 b3
      walk_at "go"
      refine s_slA f2' fun c6 G6 e6 s6 => ?_
      rw [cutV_from (by omega), List.length_map, Int.toNat_natCast] at s6
      walk_at "go"
      rename_i c7 G7 nc7 e7 s7
      refine s_catB ((e6.trans e7).sqT (by simp) s5) (SqT.of s7) (by simp) fun c8 G8 e8 s8 => ?_
      have e58 := e5.trans (e6.trans (e7.trans e8))
      obtain ⟨s0, hs0⟩ := List.length_eq_one_iff.mp h1
      have gl' : GL { srtM M with ok := (srtM M).st.filter fun b => !decide (b ∈ M.ok) } := gl_ok gl _
      have hk : M.ok = if s0 ∈ M.ok then [s0] else [] := by
        have := m.f
        rw [hs0] at this
        by_cases hz : s0 ∈ M.ok
        · rw [List.filter_cons_of_pos (by simp [hz])] at this
          rw [if_pos hz, ← this]
          rfl
        · rw [List.filter_cons_of_neg (by simp [hz])] at this
          rw [if_neg hz, ← this]
          rfl
      refine k c8 { srtM M with ok := (srtM M).st.filter fun b => !decide (b ∈ M.ok) } G8 (EF.trans e58.wide) (pF.ex e58 (by simp)) ⟨fo, fr, ft, c6, s8, e58.sqT (by simp) f2, f3.ex0 e58, f4.ex0 e58, ?_⟩ gl' (not_eqv fun zz => ?_)
      · have s6' := (e7.trans e8).sqT (by simp) s6
        have : ((srtM M).st.map vS).drop M.ok.length = ((srtM M).st.filter fun b => !decide (b ∈ M.ok)).map vS := by
          show (M.st.map vS).drop M.ok.length = (M.st.filter fun b => !decide (b ∈ M.ok)).map vS
          rw [hs0]
          by_cases hz : s0 ∈ M.ok
          · have : M.ok.length = 1 := by rw [hk, if_pos hz]; rfl
            rw [this, List.filter_cons_of_neg (by simp [hz])]
            rfl
          · have : M.ok.length = 0 := by rw [hk, if_neg hz]; rfl
            rw [this, List.filter_cons_of_pos (by simp [hz])]
            rfl
        rw [← this]
        exact s6'
      · have h4 : (M.st.filter fun b => !decide (b ∈ M.ok)) = M.ok := (lrow_inj gl' gl zz).2.2.2
        have hin : s0 ∈ M.st := by rw [hs0]; exact List.mem_cons_self
        have h5 : s0 ∈ (M.st.filter fun b => !decide (b ∈ M.ok)) ↔ s0 ∈ M.ok := by rw [h4]
        rw [List.mem_filter] at h5
        by_cases hz : s0 ∈ M.ok <;> simp [hz, hin] at h5
    · refine s_F (decide_eq_false (by rw [List.length_map]; show ¬ (M.st.length : Int) = 1; omega)) ?_
      walk_at "go"
      rename_i w1 G5 nw1 e5 y1 w2 G6 nw2 e6 y2
      rw [cutV_from (by decide)] at y1
      rw [cutV_to (by decide)] at y2
      refine s_cat (e6.get0 y1) y2 (Nat.le_trans (m := 1000) (by simp; omega) (by decide)) fun w3 G7 nw3 e7 y3 => ?_
      have e57 := e5.trans (e6.trans e7)
      have z1' := e57.get0 z1
      walk_at "go"
      rename_i w4 G8 nw4 e8 y4
      have e58 := e57.trans e8
      have pm : (M.st.drop 1 ++ M.st.take 1).Perm M.st := List.perm_append_comm.trans (by rw [List.take_append_drop])
      have g3 : GoodM { M with st := M.st.drop 1 ++ M.st.take 1 } := ⟨m.g.ab, ⟨by rw [pm.length_eq]; exact l1, by rw [pm.length_eq]; exact l6, pm.nodup_iff.mpr m.g.st.2.2.1, fun b hb => m.g.st.2.2.2 b (pm.mem_iff.mp hb)⟩, fun b hb c hc => pm.mem_iff.mpr (m.g.tb b (pm.mem_iff.mp hb) c hc), fun b hb => pm.mem_iff.mpr (m.g.en b (pm.mem_iff.mp hb)), fun b hb => pm.mem_iff.mpr (m.g.ok b hb)⟩
      refine u_lineF (M := { M with st := M.st.drop 1 ++ M.st.take 1 }) ⟨w3, ss, es, oo, kt, ke, y4, ?_, e58.get0 z3, fun b hb c hc => (z4.ex0 e58) b (pm.mem_iff.mp hb) c hc, e58.get0 z5, fun b hb => (z6.ex0 e58) b (pm.mem_iff.mp hb), e58.get0 z7⟩ g3 fun pr G9 e9 r10 => ?_
      · rw [e8.get0 y3, List.map_append, List.map_drop, List.map_take]
        rfl
      refine k pr _ G9 (EF.trans (e58.trans e9).wide) (pF.ex (e58.trans e9) (by simp)) r10 (gl_flt g3) (not_eqv fun zz => ?_)
      have h4 : M.st.drop 1 ++ M.st.take 1 = M.st := (lrow_inj (gl_flt g3) gl zz).1
      have hn := m.g.st.2.2.1
      match hst : M.st, h1, l1, h4, hn with
      | [], _, l1, _, _ => simp at l1
      | [x], h1, _, _, _ => exact h1 rfl
      | x :: y :: l, _, _, h4, hn =>
        have : y = x := (List.cons.inj h4).1
        simp [this] at hn
  · obtain ⟨fo, fr, ft, fy, f1, f2, f3, f4, f5⟩ := id r9
    walk_at "go"
    by_cases h1 : M.st.length = 1
    · refine s_T (decide_eq_true (by rw [List.length_map]; show (M.st.length : Int) = 1; omega)) ?_
      walk_at "go"
      refine s_slA f1 fun c5 G5 e5 s5 => ?_
      rw [show cutV [vS (srtM M).ab, V.ref fo, V.ref fr, V.ref ft, V.ref fy] none (some 4) = [vS (srtM M).ab, V.ref fo, V.ref fr, V.ref ft] by rw [cutV_to (by decide)]; rfl] at s5
      have f1' := e5.sqT (by simp) f1
      have f2' := e5.sqT (by simp) f2
      have b3' := e5.get0 b3
      walk_at "go"
      refine s_slA f2' fun c6 G6 e6 s6 => ?_
      rw [cutV_from (by omega), List.length_map, Int.toNat_natCast] at s6
      walk_at "go"
      rename_i c7 G7 nc7 e7 s7
      refine s_catB ((e6.trans e7).sqT (by simp) s5) (SqT.of s7) (by simp) fun c8 G8 e8 s8 => ?_
      have e58 := e5.trans (e6.trans (e7.trans e8))
      obtain ⟨s0, hs0⟩ := List.length_eq_one_iff.mp h1
      have gl' : GL { srtM M with ok := (srtM M).st.filter fun b => !decide (b ∈ M.ok) } := gl_ok gl _
      have hk : M.ok = if s0 ∈ M.ok then [s0] else [] := by
        have := m.f
        rw [hs0] at this
        by_cases hz : s0 ∈ M.ok
        · rw [List.filter_cons_of_pos (by simp [hz])] at this
          rw [if_pos hz, ← this]
          rfl
        · rw [List.filter_cons_of_neg (by simp [hz])] at this
          rw [if_neg hz, ← this]
          rfl
      refine k c8 { srtM M with ok := (srtM M).st.filter fun b => !decide (b ∈ M.ok) } G8 (EF.trans e58.wide) (pF.ex e58 (by simp)) ⟨fo, fr, ft, c6, s8, e58.sqT (by simp) f2, f3.ex0 e58, f4.ex0 e58, ?_⟩ gl' (not_eqv fun zz => ?_)
      · have s6' := (e7.trans e8).sqT (by simp) s6
        have : ((srtM M).st.map vS).drop M.ok.length = ((srtM M).st.filter fun b => !decide (b ∈ M.ok)).map vS := by
          show (M.st.map vS).drop M.ok.length = (M.st.filter fun b => !decide (b ∈ M.ok)).map vS
          rw [hs0]
          by_cases hz : s0 ∈ M.ok
          · have : M.ok.length = 1 := by rw [hk, if_pos hz]; rfl
            rw [this, List.filter_cons_of_neg (by simp [hz])]
            rfl
          · have : M.ok.length = 0 := by rw [hk, if_neg hz]; rfl
            rw [this, List.filter_cons_of_pos (by simp [hz])]
            rfl
        rw [← this]
        exact s6'
      · have h4 : (M.st.filter fun b => !decide (b ∈ M.ok)) = M.ok := (lrow_inj gl' gl zz).2.2.2
        have hin : s0 ∈ M.st := by rw [hs0]; exact List.mem_cons_self
        have h5 : s0 ∈ (M.st.filter fun b => !decide (b ∈ M.ok)) ↔ s0 ∈ M.ok := by rw [h4]
        rw [List.mem_filter] at h5
        by_cases hz : s0 ∈ M.ok <;> simp [hz, hin] at h5
    · refine s_F (decide_eq_false (by rw [List.length_map]; show ¬ (M.st.length : Int) = 1; omega)) ?_
      walk_at "go"
      refine lc_fmT f2 (by show M.st.length ≤ _; omega) (fun b => !decide (b = rw1.b)) vS (fun b G C1 C0 hb eG kk1 kk0 => ?_) fun D G5 hD e5 h5 => ?_
      · have sA' := eG.sqT (by simp) sA
        walk_at "go"
        refine s_ixL (SqL.of (eG.get0 b1)) (atI_of at0 xA) ?_
        walk_at "go"
        refine s_2 (fun hz => ?_) (fun hz => ?_)
        · walk_at "go"
          exact kk1 _ Ex.rfl hz
        · exact kk0 _ Ex.rfl hz
      obtain ⟨b0, lb0, hb0⟩ : ∃ b0 l0, (M.st.filter fun b => !decide (b = rw1.b)) = b0 :: l0 := by
        match hz : (M.st.filter fun b => !decide (b = rw1.b)) with
        | b0 :: l0 => exact ⟨b0, l0, rfl⟩
        | [] =>
          exfalso
          have hall : ∀ b ∈ M.st, b = rw1.b := fun b hb => by
            have := List.filter_eq_nil_iff.mp hz b hb
            simpa using this
          have hn := m.g.st.2.2.1
          match hst : M.st, h1, l1, hall, hn with
          | [], _, l1, _, _ => simp at l1
          | [x], h1, _, _, _ => exact h1 rfl
          | x :: y :: l, _, _, hall, hn =>
            have hx := hall x (by simp)
            have hy := hall y (by simp)
            simp [hx, hy] at hn
      have mb0 := List.mem_filter.mp (show b0 ∈ M.st.filter (fun b => !decide (b = rw1.b)) by rw [hb0]; exact List.mem_cons_self)
      have nb0 : b0 ≠ rw1.b := by simpa using mb0.2
      have h5 : G5 D = some (.lst (vS b0 :: lb0.map vS)) := by
        rw [h5]
        show some (HO.lst ((M.st.filter fun b => !decide (b = rw1.b)).map vS)) = _
        rw [hb0]
        rfl
      have gl' : GL (chM (srtM M) (.row rw1.a rw1.c b0 rw1.n)) := gl_ch gl ⟨q4.1, q4.2.1, mb0.1⟩
      have b1x := e5.get0 b1
      have sAx := e5.sqT (by simp) sA
      walk_at "go"
      refine s_ixL (SqL.of b1x) (atI_of at0 xA) ?_
      walk_at "go"
      refine s_slA sAx fun c6 G6 e6 s6 => ?_
      rw [show cutV (rwV rw1) none (some 2) = [vS rw1.a, vS [rw1.c]] by rw [cutV_to (by decide)]; rfl] at s6
      have b1y := e6.get0 b1x
      have sAy := e6.sqT (by simp) sAx
      have h5' := e6.get0 h5
      walk_at "go"
      refine s_ixL (v := vS b0) (SqL.of h5') (atI_of (by decide) rfl) ?_
      walk_at "go"
      refine s_ixL (SqL.of b1y) (atI_of at0 xA) ?_
      walk_at "go"
      rename_i c7 G7 nc7 e7 s7
      refine s_catB (e7.sqT (by simp) s6) (SqT.of s7) (by simp) fun c8 G8 e8 s8 => ?_
      have s8 : SqT K G8 c8 (rwV ⟨rw1.a, rw1.c, b0, rw1.n⟩) := s8
      walk_at "go"
      have e58 := e5.trans (e6.trans (e7.trans e8))
      refine s_setL (e58.get0 b1) (j := iA.toNat) (by unfold ixN; rw [if_pos at0, if_pos (by omega)]) fun G9 e9 z8 => ?_
      have d1 := e58.get0 b1
      have rF : LRowAt K G9 ln (srtM M) := (r9.ex0 e58).exL d1 e9
      have b2 : G9 L2 = some (.lst xt) := e9.get (by simpa using n12) (e58.get0 b2)
      have b3 : G9 L3 = some (.lst (M.ok.map vS)) := e9.get (by simpa using n13) (e58.get0 b3)
      have b1 := z8
      have c1 : Tups K G9 (xr.set iA.toNat (.ref c8)) ((rwsOf (chM (srtM M) (.row rw1.a rw1.c b0 rw1.n))).map rwV) := by
        rw [setR, List.map_set]
        exact ((Tups.ex0 e58 c1).set s8).exL d1 e9
      have c2 : Tups K G9 xt ((tnsOf (srtM M)).map tnV) := (Tups.ex0 e58 c2).exL d1 e9
      have pF : PoolAt G9 a := (pF.ex e58 (by simp)).ex e9 (by simpa using fun z => n1 (by simp [z]))
      have EF : Ex [a] H G9 := Ex.dropM fL1 (EF.trans e58.wide) e9
      clear xA sA sAx sAy b1x b1y h5 h5' e5 e6 e7 e8 e58 e9 z8 f1 f2 f3 f4 f5
      obtain ⟨fo, fr, ft, fy, f1, f2, f3, f4, f5⟩ := id rF
      walk_at "go"
      refine s_tupOf (SqL.of b1) fun u1 G1 nu1 g1 z1 => ?_
      walk_at "go"
      refine s_tupOf (SqL.of (g1.get0 b2)) fun u2 G2 nu2 g2 z2 => ?_
      walk_at "go"
      refine s_tupOf (SqL.of ((g1.trans g2).get0 b3)) fun u3 G3 nu3 g3 z3 => ?_
      walk_at "go"
      rename_i pr G4 npr g4 z4
      have g04 := g1.trans (g2.trans (g3.trans g4))
      refine k pr (chM (srtM M) (.row rw1.a rw1.c b0 rw1.n)) G4 (EF.trans g04.wide) (pF.ex g04 (by simp)) ⟨fo, u1, u2, u3, SqT.of z4, g04.sqT (by simp) f2, TupsAt.mk ((g2.trans (g3.trans g4)).sqT (by simp) (SqT.of z1)) (Tups.ex0 g04 c1), TupsAt.mk ((g3.trans g4).sqT (by simp) (SqT.of z2)) (Tups.ex0 g04 c2), g4.sqT (by simp) (SqT.of z3)⟩ gl' (not_eqv fun zz => ?_)
      exact neR (lrow_inj gl' gl zz).2.1 fun w => nb0 w.1
end
end WB
namespace WB
open PySem PySem.Spec PyProof.Rows L2
local macro_rules | `(tactic| walk_at "lit") => `(tactic| first | exact lit_abc | exact lit_empty)
local macro_rules | `(tactic| walk_at "nm") => `(tactic| focus first | exact List.not_mem_nil | (simp only [List.mem_singleton]; first | assumption | (exact Ne.symm (by assumption)) | (intro hz; subst hz; simp_all; done)))
local macro_rules | `(tactic| walk_at "hp") => `(tactic| first | assumption | (apply Ex.get0 (by assumption); walk_at "hp") | (apply Ex.get (by assumption); (walk_at "nm"); (walk_at "hp")))
local macro_rules | `(tactic| walk_at "sq") => `(tactic| first | assumption | (apply SqL.of; walk_at "hp") | (apply Ex.sqL (by assumption); (walk_at "nm"); (walk_at "sq")))
local macro_rules | `(tactic| walk_at "sqt") => `(tactic| first | assumption | (apply SqT.of; walk_at "hp") | (apply Ex.sqT (by assumption); (walk_at "nm"); (walk_at "sqt")))
local macro_rules | `(tactic| walk_at "sz") => `(tactic| focus ((with_reducible refine Nat.le_trans (m := 100000) ?_ (by decide)); first | omega | (simp; done) | (simp; omega)))
local macro_rules | `(tactic| walk_at "mul") => `(tactic| first | exact Or.inr ⟨by omega, by omega⟩ | exact Or.inl ⟨by omega, by omega⟩)
local macro_rules | `(tactic| walk_at "pool") => `(tactic| first | assumption | (apply PoolAt.ex (by assumption); (walk_at "nm"); (walk_at "pool")))
local macro_rules | `(tactic| walk_at "ring") => `(tactic| first | assumption | (apply RingAt.ex (by assumption); (walk_at "nm"); (walk_at "ring")))
local macro_rules | `(tactic| walk_at "st") => `(tactic| first
  | with_reducible refine s_seq ?_
  | with_reducible refine s_asg ?_
  | with_reducible refine s_gName ?_
  | with_reducible refine s_ret ?_
  | with_reducible refine s_ifS ?_
  | with_reducible refine s_next ?_
  | with_reducible refine s_op ?_
  | ((with_reducible apply s_var); exact rfl)
  | ((with_reducible apply s_cS); (walk_at "lit"))
  | with_reducible refine s_c ?_
  | with_reducible refine s_cb ?_
  | with_reducible refine s_cons ?_
  | with_reducible refine s_nil ?_
  | with_reducible refine s_un ?_
  | with_reducible refine s_call ?_
  | with_reducible refine s_test ?_
  | with_reducible refine s_tB ?_
  | with_reducible refine s_blQ ?_
  | with_reducible refine s_not ?_
  | with_reducible refine s_and ?_
  | with_reducible refine s_or ?_
  | with_reducible refine s_andV ?_
  | with_reducible refine s_orV ?_
  | with_reducible refine s_notV ?_
  | with_reducible refine s_ifE ?_
  | with_reducible refine s_chain ?_
  | ((with_reducible refine s_T ?_ ?_); (with_reducible exact rfl))
  | with_reducible refine s_nT ?_
  | with_reducible refine s_nF ?_
  | ((with_reducible refine s_F ?_ ?_); (with_reducible exact rfl))
  | ((with_reducible refine s_T ?_ ?_); assumption)
  | ((with_reducible refine s_F ?_ ?_); assumption)
  | ((with_reducible refine s_nB ?_ ?_); assumption)
  | ((with_reducible refine s_nA ?_ ?_); assumption)
  | ((with_reducible refine s_Td ?_ ?_); omega)
  | ((with_reducible refine s_Fd ?_ ?_); omega)
  | ((with_reducible refine s_nTd ?_ ?_); omega)
  | ((with_reducible refine s_nFd ?_ ?_); omega)
  | with_reducible refine s_sfld ?_
  | with_reducible refine s_addI ?_
  | with_reducible refine s_subI ?_
  | ((with_reducible refine s_mulI ?_ ?_); (walk_at "mul"))
  | ((with_reducible refine s_divI ?_ ?_); exact ⟨by omega, by omega⟩)
  | ((with_reducible refine s_modI ?_ ?_); omega)
  | ((with_reducible refine s_powI ?_ ?_); exact ⟨by decide, by decide, by decide⟩)
  | with_reducible refine s_ltI ?_
  | with_reducible refine s_leI ?_
  | with_reducible refine s_gtI ?_
  | with_reducible refine s_geI ?_
  | with_reducible refine s_negI ?_
  | with_reducible refine s_absI ?_
  | with_reducible refine s_intI ?_
  | with_reducible refine s_min2 ?_
  | with_reducible refine s_max2 ?_
  | with_reducible refine s_eqI ?_
  | with_reducible refine s_neI ?_
  | with_reducible refine s_eqS ?_
  | with_reducible refine s_neS ?_
  | with_reducible refine s_inSg ?_
  | with_reducible refine s_notInSg ?_
  | ((with_reducible refine s_addS ?_ ?_); (walk_at "sz"))
  | ((with_reducible refine s_lenS ?_ ?_); (walk_at "sz"))
  | ((with_reducible apply s_lenL); (walk_at "sq"))
  | ((with_reducible apply s_lenT); (walk_at "sqt"))
  | ((with_reducible apply s_ixL); (walk_at "sq"); exact rfl)
  | ((with_reducible apply s_ixT); (walk_at "sqt"); exact rfl)
  | with_reducible refine s_gSub ?_
  | ((with_reducible apply s_setL); (walk_at "hp"); (exact rfl); (intro _ _ _))
  | ((with_reducible refine s_alloc ?_ ?_); (walk_at "sz"); (intro _ _ _ _ _))
  | ((with_reducible refine s_divmod ?_ ?_); (exact ⟨by omega, PyProof.noPylong_small (by omega)⟩); (intro _ _ _ _ _))
  | ((with_reducible apply s_gTup); (walk_at "sqt"); (exact rfl))
  | ((with_reducible apply s_gLst); (walk_at "sq"); (exact rfl))
  | with_reducible refine s_gCons ?_
  | with_reducible refine s_gNil ?_
  | with_reducible refine s_lc ?_
  | ((with_reducible apply s_cat); (walk_at "hp"); (walk_at "hp"); (walk_at "sz"); (intro _ _ _ _ _))
  | ((with_reducible apply s_slL); (walk_at "sq"); (intro _ _ _ _ _))
  | with_reducible refine s_for ?_
  | with_reducible refine s_rng1 ?_
  | ((with_reducible refine s_rng1i ?_ ?_); (constructor <;> omega))
  | with_reducible refine s_rng2 ?_
  | ((with_reducible refine s_rng2i ?_ ?_); (refine ⟨?_, ?_, ?_, ?_⟩ <;> omega))
  | with_reducible refine s_iStr ?_
  | with_reducible refine s_iStrS ?_
  | with_reducible refine s_iList ?_
  | ((with_reducible apply s_iListA); (walk_at "sq"))
  | with_reducible refine s_iTup ?_
  | ((with_reducible apply s_iTupA); (walk_at "sqt"))
  | with_reducible refine s_sl ?_
  | with_reducible refine s_noPart ?_
  | with_reducible refine s_part ?_
  | with_reducible refine s_int1 ?_
  | ((with_reducible refine s_slS ?_ ?_); (walk_at "sz"))
  | with_reducible refine s_tup ?_
  | with_reducible refine s_lst ?_
  | with_reducible refine s_par ?_
  | with_reducible refine s_pair ?_
  | with_reducible refine s_M1 ?_
  | with_reducible refine s_isStr ?_
  | with_reducible refine s_revS ?_
  | ((with_reducible refine s_revS1 ?_ ?_); (walk_at "sz"))
  | with_reducible refine s_fldE ?_
  | with_reducible refine s_propE ?_
  | ((with_reducible refine u_draw ?_ ?_ ?_ ?_); omega; omega; (walk_at "pool"); (intro _ _ _ _ _ _))
  | ((with_reducible refine u_pool ?_); (intro _ _ _ _ _))
  | with_reducible refine u_is_integer ?_
  | with_reducible refine s_isiII ?_
  | with_reducible refine s_isiIB ?_
  | with_reducible refine s_isiSS ?_
  | ((with_reducible apply u_fldRing); assumption; (walk_at "ring"))
  | ((with_reducible apply u_textP); (walk_at "ring"))
  | ((with_reducible apply u_strRing); (walk_at "ring"))
  | ((with_reducible apply u_eqRing); (walk_at "ring"); (walk_at "ring"))
  | ((with_reducible apply u_isiRing); assumption; (walk_at "ring"))
  | ((with_reducible refine u_is_word ?_ ?_); omega; (intro _ _))
  | ((with_reducible refine u_turnings ?_ ?_); omega; (intro _ _ _ _ _))
  | with_reducible refine s_makeE ?_
  | with_reducible refine s_methE ?_)
local macro_rules | `(tactic| walk_at "go") => `(tactic| repeat (walk_at "st"))
local macro_rules | `(tactic| walk_at "exs") => `(tactic| first | exact Ex.rfl | assumption | (apply Ex.snoc (by assumption); walk_at "exs") | (apply Ex.snocW (by assumption); walk_at "exs"))
local macro_rules | `(tactic| walk_at "kind") => `(tactic| first | assumption | (apply KindAt.ex0 (by assumption); (walk_at "kind")) | (apply KindAt.exP (by assumption) (by assumption); (walk_at "kind")))
local macro_rules | `(tactic| walk_at "st") => `(tactic| first
  | with_reducible refine s_lenSet ?_
  | with_reducible refine s_drop ?_
  | with_reducible refine s_bm ?_
  | with_reducible refine s_notN ?_
  | with_reducible refine s_isN ?_
  | ((with_reducible apply s_tyL); (walk_at "hp"))
  | with_reducible refine s_enumT ?_
  | ((with_reducible apply s_enumTA); (walk_at "sqt"))
  | with_reducible refine s_lc2 ?_)
local macro_rules | `(tactic| walk_at "st") => `(tactic| first
  | with_reducible refine s_makeK ?_
  | with_reducible refine s_cmeth ?_
  | with_reducible refine s_cmethK ?_
  | with_reducible refine s_self ?_
  | ((with_reducible apply u_kSigns); (walk_at "kind")))
local macro_rules | `(tactic| walk_at "lit") => `(tactic| exact lit_MRK)
local macro_rules | `(tactic| walk_at "st") => `(tactic| first
  | with_reducible refine s_dcT ?_
  | with_reducible refine s_dc ?_)
local macro_rules | `(tactic| walk_at "lit") => `(tactic| exact lit_z)
/-- _law_right: 0 _law_pool_here 1 _law_model_here 2 _law_line_here 3 _law_abc 4 _law_posts 5 _law_lines 6 _law_ends 7 _law_oks 8 _law_near 9 _law_loops_here 10 _law_loop 11 _law_plain 12 _law_post 13 _law_bare 14 _law_far 15 _law_mate -/
def t_law_right (K : PySem.W.Frag) : TS :=
  (tSeq (tAsg (tCall (sp_law_model K) [] E0 (tCons (tVar 0) (tCons (tCall (sp_law_signs K) [] E0 (tCons (tVar 0) (tCons (tC (.int 4)) tNil))) (tCons (tC (.int 6)) (tCons (tC (.bl true)) tNil))))) (gName 1))
  (tSeq (tAsg (tCall (sp_law_lineF K) [] E0 (tCons (tVar 1) tNil)) (gName 2))
  (tSeq (tAsg (tCall (sp_law_parts K) [] E0 (tCons (tVar 0) (tCons (tVar 1) tNil))) (gLst K 5 (gCons (gName 3) (gCons (gName 4) (gCons (gName 5) (gCons (gName 6) (gCons (gName 7) gNil)))))))
  (tSeq (tAsg (tMakeK (He.ga K "Loop") 4 1 (sp_Loop_init K) (fun vs zs => selG [(0, 0), (0, 1), (0, 2), (0, 3), (0, 4), (2, 0)] vs [(.ref (He.dflAt ("Loop", some "__init__") 0 K))] [] zs) E0 (tCons (tVar 3) (tCons (tVar 4) (tCons (tVar 5) (tCons (tVar 6) tNil)))) (tCons (tVar 7) tNil)) (gName 8))
  (tSeq (tAsg (tLst (tCons (tVar 8) (tCons (tMakeK (He.ga K "Loop") 0 5 (sp_Loop_init K) (fun vs zs => selG [(0, 0), (2, 4), (2, 3), (2, 2), (2, 1), (2, 0)] vs [(.ref (He.dflAt ("Loop", some "__init__") 0 K))] [] zs) E0 tNil (tCons (tVar 7) (tCons (tVar 6) (tCons (tVar 5) (tCons (tVar 4) (tCons (tVar 3) tNil)))))) (tCons (ClX.tCMeth (He.ga K "Loop") (fun vs H Q E => sp_Loop_made K (vs ++ []) H Q E) E0 (tC (.ref (He.ga K "Loop"))) (tCons (tVar 2) tNil)) tNil)))) (gName 9))
  (tSeq (tAsg (tOp rCat (tVar 9) (tLst (tCons (tCMethK (He.ga K "Loop") 1 (sp_Loop_made K) (fun vs zs => selG [(0, 0), (2, 0)] vs [] [] zs) E0 (tC (.ref (He.ga K "Loop"))) (tCons (tProp (He.ga K "Loop") (sp_Loop_row K) [] E0 (tVar 8)) tNil)) (tCons (tMakeK (He.ga K "Loop") 4 1 (sp_Loop_init K) (fun vs zs => selG [(0, 0), (0, 1), (0, 2), (0, 3), (0, 4), (2, 0)] vs [(.ref (He.dflAt ("Loop", some "__init__") 0 K))] [] zs) E0 (tCons (tOp (rIxT K) (tVar 2) (tC (.int 0))) (tCons (tVar 4) (tCons (tOp (rIxT K) (tVar 2) (tC (.int 2))) (tCons (tOp (rIxT K) (tVar 2) (tC (.int 3))) tNil)))) (tCons (tOp (rIxT K) (tVar 2) (tC (.int 4))) tNil)) tNil)))) (gName 9))
  (tSeq (tIfS (tNot (tB (tCB (rAll K) (tCons (tLc (iList K (tVar 9)) (gName 10) tYes (tCall (sp_law_is_loop K) [] E0 (tCons (tVar 10) (tCons (tVar 2) tNil))) [10]) tNil)))) (tRet (tC (.bl false))) tNext)
  (tSeq (tIfS (tNot (tB (tCB (rAll K) (tCons (tLc (iList K (tVar 9)) (gName 10) tYes (tAndV (tOp (rEqO (He.ga K "Loop") (sp_Loop_eq K) E0) (tVar 10) (tVar 8)) (tNotV (tOp (rNeA K (He.ga K "Loop") (sp_Loop_eq K) E0) (tVar 10) (tVar 8)))) [10]) tNil)))) (tRet (tC (.bl false))) tNext)
  (tSeq (tAsg (tOp (rCatA K) (tSl (rSlA K) (tVar 2) tNoPart (tPart (tC (.int 3)))) (tTup (tCons (tCB (rTupOf K) (tCons (tLc (iTup K (tVar 4)) (gName 12) tYes (tTup (tCons (tVar 12) (tCons (tVar 12) (tCons (tC (.int 0)) tNil)))) [12]) tNil)) (tCons (tTup tNil) tNil)))) (gName 11))
  (tSeq (tAsg (tMakeK (He.ga K "Loop") 3 0 (sp_Loop_init K) (fun vs zs => selG [(0, 0), (0, 1), (0, 2), (0, 3), (1, 0), (3, 0)] vs [(.ref (He.dflAt ("Loop", some "__init__") 0 K))] [(.ref (kwdAt ("Loop", some "__init__") "yes" K))] zs) E0 (tCons (tVar 3) (tCons (tVar 4) (tCons (tVar 5) tNil))) tNil) (gName 13))
  (tSeq (tIfS (tOr (tNot (tB (tCall (sp_law_is_loop K) [] E0 (tCons (tVar 13) (tCons (tVar 11) tNil))))) (tTest (tOp rNe (tOp (rEqO (He.ga K "Loop") (sp_Loop_eq K) E0) (tVar 13) (tVar 8)) (tOp (rEqD K) (tVar 11) (tVar 2))))) (tRet (tC (.bl false))) tNext)
  (tSeq (tAsg (tCall (sp_law_other K) [] E0 (tCons (tVar 0) (tCons (tVar 1) tNil))) (gName 14))
  (tSeq (tAsg (ClX.tCMeth (He.ga K "Loop") (fun vs H Q E => sp_Loop_made K (vs ++ []) H Q E) E0 (tC (.ref (He.ga K "Loop"))) (tCons (tVar 14) tNil)) (gName 15))
  (tSeq (tIfS (tOr (tTest (tOp (rEqO (He.ga K "Loop") (sp_Loop_eq K) E0) (tVar 15) (tVar 8))) (tOr (tNot (tTest (tOp (rNeA K (He.ga K "Loop") (sp_Loop_eq K) E0) (tVar 15) (tVar 8)))) (tNot (tB (tCall (sp_law_is_loop K) [] E0 (tCons (tVar 15) (tCons (tVar 14) tNil))))))) (tRet (tC (.bl false))) tNext)
  (tRet (tAndV (tOp (rNeA K (He.ga K "Loop") (sp_Loop_eq K) E0) (tVar 8) (tVar 2)) (tAndV (tNotV (tOp (rEqA K (He.ga K "Loop") (sp_Loop_eq K) E0) (tVar 8) (tOp (rIxT K) (tVar 2) (tC (.int 1))))) (tAndV (tCB (rBoolN (He.ga K "Loop")) (tCons (tVar 8) tNil)) (tCall (sp_law_is_loop K) [] E0 (tCons (tVar 8) (tCons (tVar 2) tNil)))))))))))))))))))))
/-- law: 0 _law_script 1 _law_k -/
def t_law (K : PySem.W.Frag) : TS :=
  (tRet (tCB (rAll K) (tCons (tLc (iRng1 (tCons (tCB rMax2 (tCons (tC (.int 2)) (tCons (tCB rMin2 (tCons (tCB (rLenV K) (tCons (tVar 0) tNil)) (tCons (tC (.int 6)) tNil))) tNil))) tNil)) (gName 1) tYes (tCall (sp_law_right K) [] E0 (tCons (tCall (sp_law_pool K) [] E0 (tCons (tCall (sp_law_cell K) [] E0 (tCons (tVar 0) (tCons (tVar 1) tNil))) tNil)) tNil)) [1]) tNil)))
section
variable {K : PySem.W.Frag} {vs : List V} {H H1 : Hp} {Q : VK} {E : XK}
theorem pure_law_right (F : LoopI K) (hno : ∀ n ∈ KD, PySem.W.kitOne K (.type n) (.ref (He.ga K "Loop")) = some false) (D0 : Dfl0 K) (DK : ∀ H : Hp, SqT K H (kwdAt ("Loop", some "__init__") "yes" K) []) (h : sp_law_right K vs H Q E) : t_law_right K (E1 Q) (start ["_law_pool_here", "_law_model_here", "_law_line_here", "_law_abc", "_law_posts", "_law_lines", "_law_ends", "_law_oks", "_law_near", "_law_loops_here", "_law_loop", "_law_plain", "_law_post", "_law_bare", "_law_far", "_law_mate"] vs) H := by
  obtain ⟨a, rfl, hp, k⟩ := h
  show t_law_right K (E1 Q) [some (.ref a), none, none, none, none, none, none, none, none, none, none, none, none, none, none, none] H
  unfold t_law_right
  walk_at "go"
  refine u_signs (by omega) (by omega) hp fun s1 H1 a1 a2 a3 a4 e1 p1 => ?_
  walk_at "go"
  refine u_model ⟨isWord_mk (List.length_pos_iff.mpr a1) (by omega) a3, by omega, a4⟩ (by omega) (by omega) p1 fun q M H2 m _ _ nq e2 p2 hq => ?_
  walk_at "go"
  refine u_lineG hq m fun ln H3 e3 r3 => ?_
  have p3 := p2.ex e3 (by simp)
  walk_at "go"
  refine u_parts (hq.ex0 e3) m p3 fun pr s rs ts ys H4 e4 p4 told ⟨o, r, t, y, h1, h2, h3, h4, h5⟩ => ?_
  have r4 := r3.exP p3 e4
  have hq4 := (hq.ex0 e3).exP p3 e4
  have e04 : Ex [a] H H4 := (e1.trans e2).trans (e3.wide.trans e4)
  have gl := m.gl
  have gs := told.gs m
  have gr := told.rows m
  have gt := told.tns m
  have gy := told.yes m
  have Q3 : ∀ b ∈ M.st, ∀ c ∈ sgn s, (srtM M).tb b c = tbOf rs b c := Told.q3 (M := M) m told
  have Q4 : ∀ b ∈ M.st, (srtM M).en b = enOf ts b := Told.q4 (M := M) m told
  have Q5 : (srtM M).ok = M.st.filter fun b => decide (b ∈ ys) := Told.q5 (M := M) m told
  clear e1 e2 e3 e4 p1 p2 p3 hp nq hq r3 a1 a2 a3 a4
  walk_at "go"
  refine mk_loopG (M' := srtM M) rfl rfl (fun x => rfl) gs h2 m.g.st h3 gr h4 gt h5 gy told.q1 rfl Q3 Q4 Q5 fun x1 H5 e5 hx1 => ?_
  walk_at "go"
  refine mk_loopG (M' := srtM M) rfl rfl (fun x => rfl) gs (e5.sqT (by simp) h2) m.g.st (h3.ex0 e5) gr (h4.ex0 e5) gt (e5.sqT (by simp) h5) gy told.q1 rfl Q3 Q4 Q5 fun x2 H6 e6 hx2 => ?_
  walk_at "go"
  refine ⟨ln, rfl, srtM M, r4.ex0 (e5.trans e6), gl, fun x3 H7 e7 hx3 => ?_⟩
  walk_at "go"
  rename_i L1 H8 nL1 e8 hL1
  have e58 := e6.trans (e7.trans e8)
  refine u_lrow (hx1.ex0 e58) gl.g fun p4' H9 e9 r9 => ?_
  walk_at "go"
  refine ⟨rfl, p4', rfl, srtM M, r9, gl, fun x4 H10 e10 hx4 => ?_⟩
  have e410 : Ex [] H4 H10 := e5.trans (e58.trans (e9.trans e10))
  obtain ⟨o1, rr1, t1, y1, w1, w2, w3, w4, w5⟩ := id (r4.ex0 e410)
  walk_at "go"
  refine mk_loopG (M' := srtM M) rfl rfl (fun x => rfl) gl.g.ab (e410.sqT (by simp) h2) m.g.st w3 (good_rws gl.g) w4 (good_tns (M := srtM M) gl.g) w5 ⟨gl.g.ok, by rw [← gl.f]; exact gl.g.st.2.2.1.sublist List.filter_sublist⟩ gl.s.symm rfl (fun b hb c hc => by
    have hc : c ∈ sgn (srtM M).ab := hc
    rw [gl.s] at hc
    exact (tb_rws (M := srtM M) b hb c hc).symm) (fun b hb => (en_tns (M := srtM M) b hb).symm) gl.f.symm fun x5 H11 e11 hx5 => ?_
  walk_at "go"
  rename_i L2 H12 nL2 e12 hL2
  have e1112 := e11.trans e12
  refine s_cat ((e9.trans (e10.trans e1112)).get0 hL1) hL2 (by show (5 : Nat) ≤ sizeLine; decide) fun L H13 nL e13 hL => ?_
  have e113 := e1112.trans e13
  have e513 : Ex [] H5 H13 := e58.trans (e9.trans (e10.trans e113))
  have e413 : Ex [] H4 H13 := e5.trans e513
  have X1 := hx1.ex0 e513
  have X2 := hx2.ex0 (e7.trans (e8.trans (e9.trans (e10.trans e113))))
  have X3 := hx3.ex0 (e8.trans (e9.trans (e10.trans e113)))
  have X4 := hx4.ex0 e113
  have X5 := hx5.ex0 (e12.trans e13)
  have hL : H13 L = some (.lst [.ref x1, .ref x2, .ref x3, .ref x4, .ref x5]) := hL
  have r13 := r4.ex0 e413
  have hq13 := hq4.ex0 e413
  have p13 := p4.ex e413 (by simp)
  have h2 := e413.sqT (by simp) h2
  have h3 := h3.ex0 e413
  have e013 := e04.trans e413.wide
  have all5 : ∀ (i : Nat) (v : V), [V.ref x1, V.ref x2, V.ref x3, V.ref x4, V.ref x5][i]? = some v → ∃ z, v = .ref z ∧ LoopAt K H13 z (srtM M) := fun i v hv => match i, hv with
    | 0, hv => ⟨x1, (Option.some.inj hv).symm, X1⟩
    | 1, hv => ⟨x2, (Option.some.inj hv).symm, X2⟩
    | 2, hv => ⟨x3, (Option.some.inj hv).symm, X3⟩
    | 3, hv => ⟨x4, (Option.some.inj hv).symm, X4⟩
    | 4, hv => ⟨x5, (Option.some.inj hv).symm, X5⟩
    | i + 5, hv => by cases hv
  clear e5 e6 e7 e8 e58 e9 e10 e410 e11 e12 e1112 e13 e113 e513 e413 hx1 hx2 hx3 hx4 hx5 hL1 hL2 nL1 nL2 r9 r4 w1 w2 w3 w4 w5 hq4 p4 e04 h1 h4 h5 X2 X3 X4 X5 nL
  walk_at "go"
  refine lc_mapL (SqL.of hL) (by simp) (fun _ => .bl true) (fun i v G C hv eG kc => ?_) fun D1 H14 hD1 e14 hd1 => ?_
  · obtain ⟨z, rfl, hz⟩ := all5 i v hv
    walk_at "go"
    exact u_is_loop (hz.ex0 eG) gl (r13.ex0 eG) fun H' e' => kc _ e'
  walk_at "go"
  refine s_all (bs := [true, true, true, true, true]) (SqL.of hd1) ?_
  have hL14 := e14.get0 hL
  walk_at "go"
  refine s_F rfl ?_
  walk_at "go"
  have rfl14 : PyData.eqv (lrowD (srtM M)) (lrowD (srtM M)) = true := SeqAt.eqv_refl _ (lrow_lay gl)
  refine lc_mapL (SqL.of hL14) (by simp) (fun _ => .bl true) (fun i v G C hv eG kc => ?_) fun D2 H15 hD2 e15 hd2 => ?_
  · obtain ⟨z, rfl, hz⟩ := all5 i v hv
    have e0 := e14.trans eG
    walk_at "go"
    refine u_lEq (hz.ex0 e0) gl (X1.ex0 e0) gl rfl fun G1 g1 => ?_
    walk_at "go"
    refine u_lNeB F (hz.ex0 (e0.trans g1)) gl (X1.ex0 (e0.trans g1)) gl fun G2 g2 => ?_
    rw [rfl14]
    walk_at "go"
    exact kc _ (g1.trans g2)
  walk_at "go"
  refine s_all (bs := [true, true, true, true, true]) (SqL.of hd2) ?_
  walk_at "go"
  refine s_F rfl ?_
  have e1315 := e14.trans e15
  have X1 := X1.ex0 e1315
  have r15 := r13.ex0 e1315
  have hq15 := hq13.ex0 e1315
  have p15 := p13.ex e1315 (by simp)
  have h2 := e1315.sqT (by simp) h2
  have h3 := h3.ex0 e1315
  have e015 := e013.trans e1315.wide
  clear e14 e15 e1315 hL hL14 all5 hd1 hd2 hD1 hD2 r13 hq13 p13 e013
  obtain ⟨o1, rr1, t1, y1, w1, w2, w3, w4, w5⟩ := id r15
  walk_at "go"
  refine s_slA w1 fun c5 H16 e16 s16 => ?_
  rw [show cutV [vS (srtM M).ab, V.ref o1, V.ref rr1, V.ref t1, V.ref y1] none (some 3) = [vS (srtM M).ab, V.ref o1, V.ref rr1] by rw [cutV_to (by decide)]; rfl] at s16
  have h2x := e16.sqT (by simp) h2
  walk_at "go"
  refine lc_tupsT (K := K) h2x (by have := m.g.st.2.1; omega) (fun b => tnV ⟨b, b, 0⟩) (fun b G C hb eG kc => ?_) fun D3 H17 xs3 hD3 e17 hd3 t3 => ?_
  · walk_at "go"
    rename_i q5 G1 nq5 g1 z5
    exact kc q5 G1 g1 (SqT.of z5)
  walk_at "go"
  refine s_tupOf (SqL.of hd3) fun u1 H18 nu1 e18 hu1 => ?_
  walk_at "go"
  rename_i u2 H19 nu2 e19 hu2 u3 H20 nu3 e20 hu3
  have e1720 := e18.trans (e19.trans e20)
  have e1620 := e17.trans e1720
  refine s_catB (e1620.sqT (by simp) s16) (SqT.of hu3) (by simp) fun pl H21 e21 hpl => ?_
  have e1621 := e1620.trans e21
  have e1521 := e16.trans e1621
  have glb : GL (bareL (srtM M)) := gl_bare gl
  have rpl : LRowAt K H21 pl (bareL (srtM M)) := ⟨o1, rr1, u1, u2, hpl, e1521.sqT (by simp) w2, w3.ex0 e1521, TupsAt.mk ((e19.trans (e20.trans e21)).sqT (by simp) (SqT.of hu1)) (by
    show Tups K H21 xs3 ((M.st.map fun b => (⟨b, b, 0⟩ : Tn)).map tnV)
    rw [List.map_map]
    exact Tups.ex0 (e1720.trans e21) t3), (e20.trans e21).sqT (by simp) (SqT.of hu2)⟩
  have X1 := X1.ex0 e1521
  have r21 := r15.ex0 e1521
  have hq21 := hq15.ex0 e1521
  have p21 := p15.ex e1521 (by simp)
  have h2 := e1521.sqT (by simp) h2
  have h3 := h3.ex0 e1521
  have e021 := e015.trans e1521.wide
  clear e16 e17 e18 e19 e20 e21 e1720 e1620 e1621 e1521 s16 h2x hd3 t3 hu1 hu2 hu3 hpl w1 w2 w3 w4 w5 hD3 nu1 nu2 nu3 r15 hq15 p15 e015
  walk_at "go"
  refine mk_loopG (M' := bareL (srtM M)) (st := M.st) (rs := rs) (ts := []) (ys := []) (o := o) (r := r) (t := He.dflAt ("Loop", some "__init__") 0 K) (y := kwdAt ("Loop", some "__init__") "yes" K) (s := s) rfl rfl (fun x => rfl) gs h2 m.g.st h3 gr ⟨[], D0 _, rfl, by simp⟩ ⟨by simp, by simp⟩ (DK _) ⟨by simp, by simp⟩ told.q1 rfl Q3 (fun b hb => rfl) (by show [] = _; simp) fun xb H22 e22 hxb => ?_
  walk_at "go"
  refine u_is_loop hxb glb (rpl.ex0 e22) fun H23 e23 => ?_
  have e2123 := e22.trans e23
  walk_at "go"
  refine u_lEqB (hxb.ex0 e23) glb (X1.ex0 e2123) gl fun H24 e24 => ?_
  have e2124 := e2123.trans e24
  walk_at "go"
  have d1 := dd_row (n := 0) glb.g (ok_len glb) (rpl.ex0 e2124)
  have d2 := dd_row (n := 0) gl.g (ok_len gl) (r21.ex0 e2124)
  refine (show rEqD K (.ref pl) (.ref ln) H24 _ from ⟨_, _, Dd.dp _ _ _ d1, Dd.dp _ _ _ d2, Dd.shaped (by decide) d1, Dd.shaped (by decide) d2, ?_⟩)
  refine s_neBB ?_
  rw [bne_self_eq_false]
  have X1 := X1.ex0 e2124
  have r24 := r21.ex0 e2124
  have hq24 := hq21.ex0 e2124
  have p24 := p21.ex e2124 (by simp)
  have e024 := e021.trans e2124.wide
  clear e22 e23 e24 e2123 e2124 r21 hq21 p21 e021 d1 d2 hxb rpl h2 h3
  walk_at "go"
  refine u_other hq24 m p24 fun far M' H25 e25 p25 rfar g' nev => ?_
  have X1 := X1.exP p24 e25
  have r25 := r24.exP p24 e25
  have e025 := e024.trans e25
  clear e25 p24 r24 hq24 e024
  walk_at "go"
  refine ⟨far, rfl, M', rfar, g', fun xm H26 e26 hxm => ?_⟩
  walk_at "go"
  refine u_lEqB hxm g' (X1.ex0 e26) gl fun H27 e27 => ?_
  rw [nev]
  have e2527 := e26.trans e27
  walk_at "go"
  refine u_lNeB F (hxm.ex0 e27) g' (X1.ex0 e2527) gl fun H28 e28 => ?_
  rw [nev]
  have e2528 := e2527.trans e28
  walk_at "go"
  refine s_F rfl ?_
  walk_at "go"
  refine u_is_loop (hxm.ex0 (e27.trans e28)) g' (rfar.ex0 e2528) fun H29 e29 => ?_
  have e2529 := e2528.trans e29
  walk_at "go"
  obtain ⟨o1, rr1, t1, y1, w1, w2, w3, w4, w5⟩ := id (r25.ex0 e2529)
  refine u_lNeN (hno _ (by decide)) (X1.ex0 e2529) gl (Kd.tup w1) ?_
  walk_at "go"
  refine u_lEqN (hno _ (by decide)) (X1.ex0 e2529) gl (Kd.tup w2) ?_
  walk_at "go"
  obtain ⟨dx, _, _, _, _, _, _, hxx, _⟩ := id (X1.ex0 e2529)
  refine (show rBoolN (He.ga K "Loop") [.ref x1] H29 _ from ⟨x1, dx, _, rfl, hxx, ?_⟩)
  walk_at "go"
  refine u_is_loop (X1.ex0 e2529) gl (r25.ex0 e2529) fun H30 e30 => ?_
  exact k _ (e025.trans (e2529.trans e30).wide)
theorem u_right {a : Addr} (hp : PoolAt H a) (k : ∀ H', Ex [a] H H' → Q (.bl true) H') : sp_law_right K ([.ref a] ++ []) H Q E := ⟨a, rfl, hp, k⟩
theorem pure_law (h : sp_law K vs H Q E) : t_law K (E1 Q) (start ["_law_script", "_law_k"] vs) H := by
  obtain ⟨a, ns, rfl, hs, hl, k⟩ := h
  show t_law K (E1 Q) [some (.ref a), none] H
  unfold t_law
  walk_at "go"
  rw [List.length_map]
  generalize hn : (if (if (6 : Int) < (ns.length : Int) then (6 : Int) else (ns.length : Int)) > 2 then (if (6 : Int) < (ns.length : Int) then (6 : Int) else (ns.length : Int)) else 2) = n
  have hn2 : 0 ≤ n ∧ n ≤ 63 := by subst hn; split <;> (try split) <;> omega
  clear hn
  refine lc_mapR (by omega) (fun _ => .bl true) (fun i H1 C hi e kk => ?_) (fun D H' hD e hd => ?_)
  · walk_at "go"
    refine u_cell (e.sqL (by simp) hs) hl (by omega) (by omega) fun c H2 e2 => ?_
    walk_at "go"
    rename_i p H3 hp e3 p3
    refine u_right p3 fun H4 e4 => ?_
    exact kk _ (e2.trans (Ex.drop hp e3 e4))
  · walk_at "go"
    refine s_all (bs := (List.range n.toNat).map fun _ => true) ?_ ?_
    · rw [List.map_map]; exact SqL.of hd
    · have : ((List.range n.toNat).map fun _ => true).all id = true := by simp
      rw [this]
      exact k _
end
end WB
namespace WB
open PySem PySem.Spec PyProof.Rows L2
structure Tx (K : Fr') (mg : Str → Option Value) : Prop where
  c : SaysW fa fn ex K
  h : ∃ h : Heap, K.In h ∧ h.Ns mainGlobals mg
theorem Tx.g_is_integer {K : Fr'} {mg : Str → Option Value} (T : Tx K mg) : mg "is_integer" = some (.ref (He.ga K "is_integer")) := by
  obtain ⟨h, X, G⟩ := T.h
  exact He.glo_ok X G (T.c.fact 0)
theorem Tx.g_is_name {K : Fr'} {mg : Str → Option Value} (T : Tx K mg) : mg "is_name" = some (.ref (He.ga K "is_name")) := by
  obtain ⟨h, X, G⟩ := T.h
  exact He.glo_ok X G (T.c.fact 1)
theorem Tx.g_is_word {K : Fr'} {mg : Str → Option Value} (T : Tx K mg) : mg "is_word" = some (.ref (He.ga K "is_word")) := by
  obtain ⟨h, X, G⟩ := T.h
  exact He.glo_ok X G (T.c.fact 2)
theorem Tx.g_is_row {K : Fr'} {mg : Str → Option Value} (T : Tx K mg) : mg "is_row" = some (.ref (He.ga K "is_row")) := by
  obtain ⟨h, X, G⟩ := T.h
  exact He.glo_ok X G (T.c.fact 3)
theorem Tx.g_check_signs {K : Fr'} {mg : Str → Option Value} (T : Tx K mg) : mg "check_signs" = some (.ref (He.ga K "check_signs")) := by
  obtain ⟨h, X, G⟩ := T.h
  exact He.glo_ok X G (T.c.fact 4)
theorem Tx.g_is_step {K : Fr'} {mg : Str → Option Value} (T : Tx K mg) : mg "is_step" = some (.ref (He.ga K "is_step")) := by
  obtain ⟨h, X, G⟩ := T.h
  exact He.glo_ok X G (T.c.fact 5)
theorem Tx.g_is_turn {K : Fr'} {mg : Str → Option Value} (T : Tx K mg) : mg "is_turn" = some (.ref (He.ga K "is_turn")) := by
  obtain ⟨h, X, G⟩ := T.h
  exact He.glo_ok X G (T.c.fact 6)
theorem Tx.g_check_states {K : Fr'} {mg : Str → Option Value} (T : Tx K mg) : mg "check_states" = some (.ref (He.ga K "check_states")) := by
  obtain ⟨h, X, G⟩ := T.h
  exact He.glo_ok X G (T.c.fact 7)
theorem Tx.g_check_rows {K : Fr'} {mg : Str → Option Value} (T : Tx K mg) : mg "check_rows" = some (.ref (He.ga K "check_rows")) := by
  obtain ⟨h, X, G⟩ := T.h
  exact He.glo_ok X G (T.c.fact 8)
theorem Tx.g_check_turns {K : Fr'} {mg : Str → Option Value} (T : Tx K mg) : mg "check_turns" = some (.ref (He.ga K "check_turns")) := by
  obtain ⟨h, X, G⟩ := T.h
  exact He.glo_ok X G (T.c.fact 9)
theorem Tx.g_check_yes {K : Fr'} {mg : Str → Option Value} (T : Tx K mg) : mg "check_yes" = some (.ref (He.ga K "check_yes")) := by
  obtain ⟨h, X, G⟩ := T.h
  exact He.glo_ok X G (T.c.fact 10)
theorem Tx.g_law_cell {K : Fr'} {mg : Str → Option Value} (T : Tx K mg) : mg "_law_cell" = some (.ref (He.ga K "_law_cell")) := by
  obtain ⟨h, X, G⟩ := T.h
  exact He.glo_ok X G (T.c.fact 11)
theorem Tx.g_law_pool {K : Fr'} {mg : Str → Option Value} (T : Tx K mg) : mg "_law_pool" = some (.ref (He.ga K "_law_pool")) := by
  obtain ⟨h, X, G⟩ := T.h
  exact He.glo_ok X G (T.c.fact 12)
theorem Tx.g_law_draw {K : Fr'} {mg : Str → Option Value} (T : Tx K mg) : mg "_law_draw" = some (.ref (He.ga K "_law_draw")) := by
  obtain ⟨h, X, G⟩ := T.h
  exact He.glo_ok X G (T.c.fact 13)
theorem Tx.g_law_shufU {K : Fr'} {mg : Str → Option Value} (T : Tx K mg) : mg "_law_shuffled" = some (.ref (He.ga K "_law_shuffled")) := by
  obtain ⟨h, X, G⟩ := T.h
  exact He.glo_ok X G (T.c.fact 14)
theorem Tx.g_law_face {K : Fr'} {mg : Str → Option Value} (T : Tx K mg) : mg "_law_face" = some (.ref (He.ga K "_law_face")) := by
  obtain ⟨h, X, G⟩ := T.h
  exact He.glo_ok X G (T.c.fact 15)
theorem Tx.g_law_signs {K : Fr'} {mg : Str → Option Value} (T : Tx K mg) : mg "_law_signs" = some (.ref (He.ga K "_law_signs")) := by
  obtain ⟨h, X, G⟩ := T.h
  exact He.glo_ok X G (T.c.fact 16)
theorem Tx.g_law_name {K : Fr'} {mg : Str → Option Value} (T : Tx K mg) : mg "_law_name" = some (.ref (He.ga K "_law_name")) := by
  obtain ⟨h, X, G⟩ := T.h
  exact He.glo_ok X G (T.c.fact 17)
theorem Tx.g_law_names {K : Fr'} {mg : Str → Option Value} (T : Tx K mg) : mg "_law_names" = some (.ref (He.ga K "_law_names")) := by
  obtain ⟨h, X, G⟩ := T.h
  exact He.glo_ok X G (T.c.fact 18)
theorem Tx.g_law_amount {K : Fr'} {mg : Str → Option Value} (T : Tx K mg) : mg "_law_amount" = some (.ref (He.ga K "_law_amount")) := by
  obtain ⟨h, X, G⟩ := T.h
  exact He.glo_ok X G (T.c.fact 19)
theorem Tx.g_law_model {K : Fr'} {mg : Str → Option Value} (T : Tx K mg) : mg "_law_model" = some (.ref (He.ga K "_law_model")) := by
  obtain ⟨h, X, G⟩ := T.h
  exact He.glo_ok X G (T.c.fact 20)
theorem Tx.g_law_lineF {K : Fr'} {mg : Str → Option Value} (T : Tx K mg) : mg "_law_line" = some (.ref (He.ga K "_law_line")) := by
  obtain ⟨h, X, G⟩ := T.h
  exact He.glo_ok X G (T.c.fact 21)
theorem Tx.g_law_parts {K : Fr'} {mg : Str → Option Value} (T : Tx K mg) : mg "_law_parts" = some (.ref (He.ga K "_law_parts")) := by
  obtain ⟨h, X, G⟩ := T.h
  exact He.glo_ok X G (T.c.fact 22)
theorem Tx.g_law_is_loop {K : Fr'} {mg : Str → Option Value} (T : Tx K mg) : mg "_law_is_loop" = some (.ref (He.ga K "_law_is_loop")) := by
  obtain ⟨h, X, G⟩ := T.h
  exact He.glo_ok X G (T.c.fact 23)
theorem Tx.g_law_other {K : Fr'} {mg : Str → Option Value} (T : Tx K mg) : mg "_law_other" = some (.ref (He.ga K "_law_other")) := by
  obtain ⟨h, X, G⟩ := T.h
  exact He.glo_ok X G (T.c.fact 24)
theorem Tx.g_law_right {K : Fr'} {mg : Str → Option Value} (T : Tx K mg) : mg "_law_right" = some (.ref (He.ga K "_law_right")) := by
  obtain ⟨h, X, G⟩ := T.h
  exact He.glo_ok X G (T.c.fact 25)
theorem Tx.g_law {K : Fr'} {mg : Str → Option Value} (T : Tx K mg) : mg "law" = some (.ref (He.ga K "law")) := by
  obtain ⟨h, X, G⟩ := T.h
  exact He.glo_ok X G (T.c.fact 26)
theorem Tx.g_LETTERS {K : Fr'} {mg : Str → Option Value} (T : Tx K mg) : ∃ t, mg "LETTERS" = some (.str "abcdefghijklmnopqrstuvwxyz" t) := by
  obtain ⟨h, X, G⟩ := T.h
  exact He.str_ok X G (T.c.fact 27)
theorem Tx.g_LONGEST_NAME {K : Fr'} {mg : Str → Option Value} (T : Tx K mg) : ∃ t, mg "LONGEST_NAME" = some (.int 8 t) := by
  obtain ⟨h, X, G⟩ := T.h
  exact He.int_ok X G (T.c.fact 28)
theorem Tx.g_Loop {K : Fr'} {mg : Str → Option Value} (T : Tx K mg) : mg "Loop" = some (.ref (He.ga K "Loop")) := by
  obtain ⟨h, X, G⟩ := T.h
  exact He.glo_ok X G (T.c.fact 29)
theorem Tx.g_MARKS {K : Fr'} {mg : Str → Option Value} (T : Tx K mg) : ∃ t, mg "MARKS" = some (.str "abcdefghijklmnopqrstuvwxyz0123456789" t) := by
  obtain ⟨h, X, G⟩ := T.h
  exact He.str_ok X G (T.c.fact 30)
theorem Tx.g_MOST_SIGNS {K : Fr'} {mg : Str → Option Value} (T : Tx K mg) : ∃ t, mg "MOST_SIGNS" = some (.int 4 t) := by
  obtain ⟨h, X, G⟩ := T.h
  exact He.int_ok X G (T.c.fact 31)
theorem Tx.g_MOST_STATES {K : Fr'} {mg : Str → Option Value} (T : Tx K mg) : ∃ t, mg "MOST_STATES" = some (.int 6 t) := by
  obtain ⟨h, X, G⟩ := T.h
  exact He.int_ok X G (T.c.fact 32)
theorem Tx.g_MOST_WORD {K : Fr'} {mg : Str → Option Value} (T : Tx K mg) : ∃ t, mg "MOST_WORD" = some (.int 600 t) := by
  obtain ⟨h, X, G⟩ := T.h
  exact He.int_ok X G (T.c.fact 33)
theorem Tx.n_abs {K : Fr'} {mg : Str → Option Value} (T : Tx K mg) : mg "abs" = none := by
  obtain ⟨h, X, G⟩ := T.h
  exact He.free_ok X G (T.c.fact 34)
theorem Tx.n_all {K : Fr'} {mg : Str → Option Value} (T : Tx K mg) : mg "all" = none := by
  obtain ⟨h, X, G⟩ := T.h
  exact He.free_ok X G (T.c.fact 35)
theorem Tx.n_bool {K : Fr'} {mg : Str → Option Value} (T : Tx K mg) : mg "bool" = none := by
  obtain ⟨h, X, G⟩ := T.h
  exact He.free_ok X G (T.c.fact 36)
theorem Tx.n_dict {K : Fr'} {mg : Str → Option Value} (T : Tx K mg) : mg "dict" = none := by
  obtain ⟨h, X, G⟩ := T.h
  exact He.free_ok X G (T.c.fact 37)
theorem Tx.n_divmod {K : Fr'} {mg : Str → Option Value} (T : Tx K mg) : mg "divmod" = none := by
  obtain ⟨h, X, G⟩ := T.h
  exact He.free_ok X G (T.c.fact 38)
theorem Tx.n_enumerate {K : Fr'} {mg : Str → Option Value} (T : Tx K mg) : mg "enumerate" = none := by
  obtain ⟨h, X, G⟩ := T.h
  exact He.free_ok X G (T.c.fact 39)
theorem Tx.n_int {K : Fr'} {mg : Str → Option Value} (T : Tx K mg) : mg "int" = none := by
  obtain ⟨h, X, G⟩ := T.h
  exact He.free_ok X G (T.c.fact 40)
theorem Tx.n_isinstance {K : Fr'} {mg : Str → Option Value} (T : Tx K mg) : mg "isinstance" = none := by
  obtain ⟨h, X, G⟩ := T.h
  exact He.free_ok X G (T.c.fact 41)
theorem Tx.n_len {K : Fr'} {mg : Str → Option Value} (T : Tx K mg) : mg "len" = none := by
  obtain ⟨h, X, G⟩ := T.h
  exact He.free_ok X G (T.c.fact 42)
theorem Tx.n_list {K : Fr'} {mg : Str → Option Value} (T : Tx K mg) : mg "list" = none := by
  obtain ⟨h, X, G⟩ := T.h
  exact He.free_ok X G (T.c.fact 43)
theorem Tx.n_max {K : Fr'} {mg : Str → Option Value} (T : Tx K mg) : mg "max" = none := by
  obtain ⟨h, X, G⟩ := T.h
  exact He.free_ok X G (T.c.fact 44)
theorem Tx.n_min {K : Fr'} {mg : Str → Option Value} (T : Tx K mg) : mg "min" = none := by
  obtain ⟨h, X, G⟩ := T.h
  exact He.free_ok X G (T.c.fact 45)
theorem Tx.n_range {K : Fr'} {mg : Str → Option Value} (T : Tx K mg) : mg "range" = none := by
  obtain ⟨h, X, G⟩ := T.h
  exact He.free_ok X G (T.c.fact 46)
theorem Tx.n_set {K : Fr'} {mg : Str → Option Value} (T : Tx K mg) : mg "set" = none := by
  obtain ⟨h, X, G⟩ := T.h
  exact He.free_ok X G (T.c.fact 47)
theorem Tx.n_sorted {K : Fr'} {mg : Str → Option Value} (T : Tx K mg) : mg "sorted" = none := by
  obtain ⟨h, X, G⟩ := T.h
  exact He.free_ok X G (T.c.fact 48)
theorem Tx.n_str {K : Fr'} {mg : Str → Option Value} (T : Tx K mg) : mg "str" = none := by
  obtain ⟨h, X, G⟩ := T.h
  exact He.free_ok X G (T.c.fact 49)
theorem Tx.n_tuple {K : Fr'} {mg : Str → Option Value} (T : Tx K mg) : mg "tuple" = none := by
  obtain ⟨h, X, G⟩ := T.h
  exact He.free_ok X G (T.c.fact 50)
theorem Tx.c_Loop {K : Fr'} {mg : Str → Option Value} (T : Tx K mg) : Cls K (He.ga K "Loop") := He.cls_ok (T.c.fact 51)
theorem Tx.na_Loop_letters {K : Fr'} {mg : Str → Option Value} (T : Tx K mg) : NoAttr K (He.ga K "Loop") "letters" := He.noat_ok (T.c.fact 52)
theorem Tx.na_Loop_order {K : Fr'} {mg : Str → Option Value} (T : Tx K mg) : NoAttr K (He.ga K "Loop") "order" := He.noat_ok (T.c.fact 53)
theorem Tx.na_Loop_table {K : Fr'} {mg : Str → Option Value} (T : Tx K mg) : NoAttr K (He.ga K "Loop") "table" := He.noat_ok (T.c.fact 54)
theorem Tx.na_Loop_ending {K : Fr'} {mg : Str → Option Value} (T : Tx K mg) : NoAttr K (He.ga K "Loop") "ending" := He.noat_ok (T.c.fact 55)
theorem Tx.na_Loop_marked {K : Fr'} {mg : Str → Option Value} (T : Tx K mg) : NoAttr K (He.ga K "Loop") "marked" := He.noat_ok (T.c.fact 56)
theorem Tx.ins_Loop {K : Fr'} {mg : Str → Option Value} (T : Tx K mg) : insB "Loop" K = true := T.c.more 0
theorem Tx.no_Loop {K : Fr'} {mg : Str → Option Value} (T : Tx K mg) : noB "Loop" K = true := T.c.more 1
theorem Tx.ne_Loop {K : Fr'} {mg : Str → Option Value} (T : Tx K mg) : NeF K (He.ga K "Loop") := neB_ok (T.c.more 2)
theorem Tx.no_bool_Loop {K : Fr'} {mg : Str → Option Value} (T : Tx K mg) : PySem.W.findIn K (.ref (He.ga K "Loop")) "__bool__" = some none := nofB_ok (T.c.more 3)
theorem Tx.no_len_Loop {K : Fr'} {mg : Str → Option Value} (T : Tx K mg) : PySem.W.findIn K (.ref (He.ga K "Loop")) "__len__" = some none := nofB_ok (T.c.more 4)
theorem Tx.cr_Loop {K : Fr'} {mg : Str → Option Value} (T : Tx K mg) : ClX.CRead K (He.ga K "Loop") (.type "type") := crB_ok (T.c.more 5)
theorem Tx.mk_Loop {K : Fr'} {mg : Str → Option Value} (T : Tx K mg) : Mk K (He.ga K "Loop") (He.ma K (He.ga K "Loop") "__init__") := He.mkr_ok (T.c.fact 57)
theorem Tx.dfl0 {K : Fr'} {mg : Str → Option Value} (T : Tx K mg) : Dfl0 K := tup0B_ok (T.c.more 6)
theorem Tx.dfk0 {K : Fr'} {mg : Str → Option Value} (T : Tx K mg) : ∀ H : Hp, SqT K H (kwdAt ("Loop", some "__init__") "yes" K) [] := tup0B_ok (T.c.more 7)
theorem Tx.p_Loop_signs {K : Fr'} {mg : Str → Option Value} (T : Tx K mg) : PropOf K (He.ga K "Loop") "signs" (He.ma K (He.ga K "Loop") "signs") (He5.wf K (He.ga K "Loop") "property" "signs") := propB_ok (T.c.more 8)
theorem Tx.p_Loop_states {K : Fr'} {mg : Str → Option Value} (T : Tx K mg) : PropOf K (He.ga K "Loop") "states" (He.ma K (He.ga K "Loop") "states") (He5.wf K (He.ga K "Loop") "property" "states") := propB_ok (T.c.more 9)
theorem Tx.p_Loop_yes {K : Fr'} {mg : Str → Option Value} (T : Tx K mg) : PropOf K (He.ga K "Loop") "yes" (He.ma K (He.ga K "Loop") "yes") (He5.wf K (He.ga K "Loop") "property" "yes") := propB_ok (T.c.more 10)
theorem Tx.p_Loop_rows {K : Fr'} {mg : Str → Option Value} (T : Tx K mg) : PropOf K (He.ga K "Loop") "rows" (He.ma K (He.ga K "Loop") "rows") (He5.wf K (He.ga K "Loop") "property" "rows") := propB_ok (T.c.more 11)
theorem Tx.p_Loop_turns {K : Fr'} {mg : Str → Option Value} (T : Tx K mg) : PropOf K (He.ga K "Loop") "turns" (He.ma K (He.ga K "Loop") "turns") (He5.wf K (He.ga K "Loop") "property" "turns") := propB_ok (T.c.more 12)
theorem Tx.p_Loop_row {K : Fr'} {mg : Str → Option Value} (T : Tx K mg) : PropOf K (He.ga K "Loop") "row" (He.ma K (He.ga K "Loop") "row") (He5.wf K (He.ga K "Loop") "property" "row") := propB_ok (T.c.more 13)
theorem Tx.cm_Loop_made {K : Fr'} {mg : Str → Option Value} (T : Tx K mg) : ClX.CMet K (He.ga K "Loop") (.type "type") "made" (He.ma K (He.ga K "Loop") "made") (He5.wf K (He.ga K "Loop") "classmethod" "made") := cmB_ok (T.c.more 14)
theorem Tx.s_Loop_eq {K : Fr'} {mg : Str → Option Value} (T : Tx K mg) : Spec1 K (He.ga K "Loop") "__eq__" (He.ma K (He.ga K "Loop") "__eq__") := specB_ok (T.c.more 15)
theorem Tx.loopK {K : Fr'} {mg : Str → Option Value} (T : Tx K mg) : LoopK K := ⟨T.c_Loop, T.na_Loop_letters, T.na_Loop_order, T.na_Loop_table, T.na_Loop_ending, T.na_Loop_marked⟩
theorem Tx.loopI {K : Fr'} {mg : Str → Option Value} (T : Tx K mg) : LoopI K := ⟨(insB_ok T.c_Loop T.ins_Loop).1, (insB_ok T.c_Loop T.ins_Loop).2⟩
theorem Tx.f_is_integer {K : Fr'} {mg : Str → Option Value} (T : Tx K mg) : FunD K "is_integer" "is_integer" (defArgs st_is_integer) (defBody st_is_integer) (defScope st_is_integer) (d_is_integer.dvs K) (d_is_integer.kws K) (He.ga K "is_integer") (fdOf K (He.ga K "is_integer")) := T.c.def_ 0 (d := d_is_integer)
theorem Tx.k_is_integer {K : Fr'} {mg : Str → Option Value} (T : Tx K mg) : PySem.W.keepIn K (.ref (He.ga K "is_integer")) = true := T.f_is_integer.kp
theorem Tx.b_is_integer {K : Fr'} {mg : Str → Option Value} (T : Tx K mg) : Binds K (fdOf K (He.ga K "is_integer")) ["value"] [] := FunD.bindsN (kws := d_is_integer.kws K) (T.f_is_integer) fun _ _ _ _ _ _ us hl => match us, hl with | [_], _ => rfl
theorem Tx.f_is_name {K : Fr'} {mg : Str → Option Value} (T : Tx K mg) : FunD K "is_name" "is_name" (defArgs st_is_name) (defBody st_is_name) (defScope st_is_name) (d_is_name.dvs K) (d_is_name.kws K) (He.ga K "is_name") (fdOf K (He.ga K "is_name")) := T.c.def_ 1 (d := d_is_name)
theorem Tx.k_is_name {K : Fr'} {mg : Str → Option Value} (T : Tx K mg) : PySem.W.keepIn K (.ref (He.ga K "is_name")) = true := T.f_is_name.kp
theorem Tx.b_is_name {K : Fr'} {mg : Str → Option Value} (T : Tx K mg) : Binds K (fdOf K (He.ga K "is_name")) ["value"] [] := FunD.bindsN (kws := d_is_name.kws K) (T.f_is_name) fun _ _ _ _ _ _ us hl => match us, hl with | [_], _ => rfl
theorem Tx.f_is_word {K : Fr'} {mg : Str → Option Value} (T : Tx K mg) : FunD K "is_word" "is_word" (defArgs st_is_word) (defBody st_is_word) (defScope st_is_word) (d_is_word.dvs K) (d_is_word.kws K) (He.ga K "is_word") (fdOf K (He.ga K "is_word")) := T.c.def_ 2 (d := d_is_word)
theorem Tx.k_is_word {K : Fr'} {mg : Str → Option Value} (T : Tx K mg) : PySem.W.keepIn K (.ref (He.ga K "is_word")) = true := T.f_is_word.kp
theorem Tx.bf_is_word {K : Fr'} {mg : Str → Option Value} (T : Tx K mg) : Binds K (fdOf K (He.ga K "is_word")) ["value", "signs"] [] := by
  have h := FunD.binds1 (ps := ["value", "signs"]) (T.f_is_word) 2 1 (by simp [d_is_word, He5.DefA.dvs]) (by rfl) (fun _ _ _ _ _ _ _ us its h1 h2 => match us, its, h1, h2 with | [_, _], [_], _, _ => ⟨_, rfl, rfl⟩)
  obtain ⟨ds, hv, hb⟩ := h
  have e : (d_is_word.dvs K).drop 1 = [] := rfl
  rw [e] at hv
  cases hv
  exact hb
theorem Tx.bd1_is_word {K : Fr'} {mg : Str → Option Value} (T : Tx K mg) : ∃ ds, Vals [(vS LET)] ds ∧ Binds K (fdOf K (He.ga K "is_word")) ["value", "signs"] ds := by
  have h := FunD.binds1 (ps := ["value", "signs"]) (T.f_is_word) 1 0 (by simp [d_is_word, He5.DefA.dvs]) (by rfl) (fun _ _ _ _ _ _ _ us its h1 h2 => match us, its, h1, h2 with | [_], [_], _, _ => ⟨_, rfl, rfl⟩)
  obtain ⟨ds, hv, hb⟩ := h
  refine ⟨ds, ?_, hb⟩
  have e : (d_is_word.dvs K).drop 0 = [(vS LET)] := by
    simp only [d_is_word, He5.DefA.dvs, List.map, List.drop, He.Dv.v, lit_abc]
  rw [← e]
  exact hv
theorem Tx.f_is_row {K : Fr'} {mg : Str → Option Value} (T : Tx K mg) : FunD K "is_row" "is_row" (defArgs st_is_row) (defBody st_is_row) (defScope st_is_row) (d_is_row.dvs K) (d_is_row.kws K) (He.ga K "is_row") (fdOf K (He.ga K "is_row")) := T.c.def_ 3 (d := d_is_row)
theorem Tx.k_is_row {K : Fr'} {mg : Str → Option Value} (T : Tx K mg) : PySem.W.keepIn K (.ref (He.ga K "is_row")) = true := T.f_is_row.kp
theorem Tx.b_is_row {K : Fr'} {mg : Str → Option Value} (T : Tx K mg) : Binds K (fdOf K (He.ga K "is_row")) ["value", "length"] [] := FunD.bindsN (kws := d_is_row.kws K) (T.f_is_row) fun _ _ _ _ _ _ us hl => match us, hl with | [_, _], _ => rfl
theorem Tx.f_check_signs {K : Fr'} {mg : Str → Option Value} (T : Tx K mg) : FunD K "check_signs" "check_signs" (defArgs st_check_signs) (defBody st_check_signs) (defScope st_check_signs) (d_check_signs.dvs K) (d_check_signs.kws K) (He.ga K "check_signs") (fdOf K (He.ga K "check_signs")) := T.c.def_ 4 (d := d_check_signs)
theorem Tx.k_check_signs {K : Fr'} {mg : Str → Option Value} (T : Tx K mg) : PySem.W.keepIn K (.ref (He.ga K "check_signs")) = true := T.f_check_signs.kp
theorem Tx.b_check_signs {K : Fr'} {mg : Str → Option Value} (T : Tx K mg) : Binds K (fdOf K (He.ga K "check_signs")) ["signs"] [] := FunD.bindsN (kws := d_check_signs.kws K) (T.f_check_signs) fun _ _ _ _ _ _ us hl => match us, hl with | [_], _ => rfl
theorem Tx.f_is_step {K : Fr'} {mg : Str → Option Value} (T : Tx K mg) : FunD K "is_step" "is_step" (defArgs st_is_step) (defBody st_is_step) (defScope st_is_step) (d_is_step.dvs K) (d_is_step.kws K) (He.ga K "is_step") (fdOf K (He.ga K "is_step")) := T.c.def_ 5 (d := d_is_step)
theorem Tx.k_is_step {K : Fr'} {mg : Str → Option Value} (T : Tx K mg) : PySem.W.keepIn K (.ref (He.ga K "is_step")) = true := T.f_is_step.kp
theorem Tx.b_is_step {K : Fr'} {mg : Str → Option Value} (T : Tx K mg) : Binds K (fdOf K (He.ga K "is_step")) ["row", "signs", "states"] [] := FunD.bindsN (kws := d_is_step.kws K) (T.f_is_step) fun _ _ _ _ _ _ us hl => match us, hl with | [_, _, _], _ => rfl
theorem Tx.f_is_turn {K : Fr'} {mg : Str → Option Value} (T : Tx K mg) : FunD K "is_turn" "is_turn" (defArgs st_is_turn) (defBody st_is_turn) (defScope st_is_turn) (d_is_turn.dvs K) (d_is_turn.kws K) (He.ga K "is_turn") (fdOf K (He.ga K "is_turn")) := T.c.def_ 6 (d := d_is_turn)
theorem Tx.k_is_turn {K : Fr'} {mg : Str → Option Value} (T : Tx K mg) : PySem.W.keepIn K (.ref (He.ga K "is_turn")) = true := T.f_is_turn.kp
theorem Tx.b_is_turn {K : Fr'} {mg : Str → Option Value} (T : Tx K mg) : Binds K (fdOf K (He.ga K "is_turn")) ["turn", "states"] [] := FunD.bindsN (kws := d_is_turn.kws K) (T.f_is_turn) fun _ _ _ _ _ _ us hl => match us, hl with | [_, _], _ => rfl
theorem Tx.f_check_states {K : Fr'} {mg : Str → Option Value} (T : Tx K mg) : FunD K "check_states" "check_states" (defArgs st_check_states) (defBody st_check_states) (defScope st_check_states) (d_check_states.dvs K) (d_check_states.kws K) (He.ga K "check_states") (fdOf K (He.ga K "check_states")) := T.c.def_ 7 (d := d_check_states)
theorem Tx.k_check_states {K : Fr'} {mg : Str → Option Value} (T : Tx K mg) : PySem.W.keepIn K (.ref (He.ga K "check_states")) = true := T.f_check_states.kp
theorem Tx.b_check_states {K : Fr'} {mg : Str → Option Value} (T : Tx K mg) : Binds K (fdOf K (He.ga K "check_states")) ["states"] [] := FunD.bindsN (kws := d_check_states.kws K) (T.f_check_states) fun _ _ _ _ _ _ us hl => match us, hl with | [_], _ => rfl
theorem Tx.f_check_rows {K : Fr'} {mg : Str → Option Value} (T : Tx K mg) : FunD K "check_rows" "check_rows" (defArgs st_check_rows) (defBody st_check_rows) (defScope st_check_rows) (d_check_rows.dvs K) (d_check_rows.kws K) (He.ga K "check_rows") (fdOf K (He.ga K "check_rows")) := T.c.def_ 8 (d := d_check_rows)
theorem Tx.k_check_rows {K : Fr'} {mg : Str → Option Value} (T : Tx K mg) : PySem.W.keepIn K (.ref (He.ga K "check_rows")) = true := T.f_check_rows.kp
theorem Tx.b_check_rows {K : Fr'} {mg : Str → Option Value} (T : Tx K mg) : Binds K (fdOf K (He.ga K "check_rows")) ["signs", "states", "rows"] [] := FunD.bindsN (kws := d_check_rows.kws K) (T.f_check_rows) fun _ _ _ _ _ _ us hl => match us, hl with | [_, _, _], _ => rfl
theorem Tx.f_check_turns {K : Fr'} {mg : Str → Option Value} (T : Tx K mg) : FunD K "check_turns" "check_turns" (defArgs st_check_turns) (defBody st_check_turns) (defScope st_check_turns) (d_check_turns.dvs K) (d_check_turns.kws K) (He.ga K "check_turns") (fdOf K (He.ga K "check_turns")) := T.c.def_ 9 (d := d_check_turns)
theorem Tx.k_check_turns {K : Fr'} {mg : Str → Option Value} (T : Tx K mg) : PySem.W.keepIn K (.ref (He.ga K "check_turns")) = true := T.f_check_turns.kp
theorem Tx.b_check_turns {K : Fr'} {mg : Str → Option Value} (T : Tx K mg) : Binds K (fdOf K (He.ga K "check_turns")) ["states", "turns"] [] := FunD.bindsN (kws := d_check_turns.kws K) (T.f_check_turns) fun _ _ _ _ _ _ us hl => match us, hl with | [_, _], _ => rfl
theorem Tx.f_check_yes {K : Fr'} {mg : Str → Option Value} (T : Tx K mg) : FunD K "check_yes" "check_yes" (defArgs st_check_yes) (defBody st_check_yes) (defScope st_check_yes) (d_check_yes.dvs K) (d_check_yes.kws K) (He.ga K "check_yes") (fdOf K (He.ga K "check_yes")) := T.c.def_ 10 (d := d_check_yes)
theorem Tx.k_check_yes {K : Fr'} {mg : Str → Option Value} (T : Tx K mg) : PySem.W.keepIn K (.ref (He.ga K "check_yes")) = true := T.f_check_yes.kp
theorem Tx.b_check_yes {K : Fr'} {mg : Str → Option Value} (T : Tx K mg) : Binds K (fdOf K (He.ga K "check_yes")) ["states", "yes"] [] := FunD.bindsN (kws := d_check_yes.kws K) (T.f_check_yes) fun _ _ _ _ _ _ us hl => match us, hl with | [_, _], _ => rfl
theorem Tx.f_Loop_init {K : Fr'} {mg : Str → Option Value} (T : Tx K mg) : FunD K "__init__" "Loop.__init__" (defArgs st_Loop_init) (defBody st_Loop_init) (defScope st_Loop_init) (d_Loop_init.dvs K) (d_Loop_init.kws K) (He.ma K (He.ga K "Loop") "__init__") (fdOf K (He.ma K (He.ga K "Loop") "__init__")) := T.c.def_ 11 (d := d_Loop_init)
theorem Tx.f_Loop_signs {K : Fr'} {mg : Str → Option Value} (T : Tx K mg) : FunD K "signs" "Loop.signs" (defArgs st_Loop_signs) (defBody st_Loop_signs) (defScope st_Loop_signs) (d_Loop_signs.dvs K) (d_Loop_signs.kws K) (He5.wf K (He.ga K "Loop") "property" "signs") (fdOf K (He5.wf K (He.ga K "Loop") "property" "signs")) := T.c.def_ 12 (d := d_Loop_signs)
theorem Tx.b_Loop_signs {K : Fr'} {mg : Str → Option Value} (T : Tx K mg) : Binds K (fdOf K (He5.wf K (He.ga K "Loop") "property" "signs")) ["self"] [] := FunD.bindsN (kws := d_Loop_signs.kws K) (T.f_Loop_signs) fun _ _ _ _ _ _ us hl => match us, hl with | [_], _ => rfl
theorem Tx.f_Loop_states {K : Fr'} {mg : Str → Option Value} (T : Tx K mg) : FunD K "states" "Loop.states" (defArgs st_Loop_states) (defBody st_Loop_states) (defScope st_Loop_states) (d_Loop_states.dvs K) (d_Loop_states.kws K) (He5.wf K (He.ga K "Loop") "property" "states") (fdOf K (He5.wf K (He.ga K "Loop") "property" "states")) := T.c.def_ 13 (d := d_Loop_states)
theorem Tx.b_Loop_states {K : Fr'} {mg : Str → Option Value} (T : Tx K mg) : Binds K (fdOf K (He5.wf K (He.ga K "Loop") "property" "states")) ["self"] [] := FunD.bindsN (kws := d_Loop_states.kws K) (T.f_Loop_states) fun _ _ _ _ _ _ us hl => match us, hl with | [_], _ => rfl
theorem Tx.f_Loop_yes {K : Fr'} {mg : Str → Option Value} (T : Tx K mg) : FunD K "yes" "Loop.yes" (defArgs st_Loop_yes) (defBody st_Loop_yes) (defScope st_Loop_yes) (d_Loop_yes.dvs K) (d_Loop_yes.kws K) (He5.wf K (He.ga K "Loop") "property" "yes") (fdOf K (He5.wf K (He.ga K "Loop") "property" "yes")) := T.c.def_ 14 (d := d_Loop_yes)
theorem Tx.b_Loop_yes {K : Fr'} {mg : Str → Option Value} (T : Tx K mg) : Binds K (fdOf K (He5.wf K (He.ga K "Loop") "property" "yes")) ["self"] [] := FunD.bindsN (kws := d_Loop_yes.kws K) (T.f_Loop_yes) fun _ _ _ _ _ _ us hl => match us, hl with | [_], _ => rfl
theorem Tx.f_Loop_rows {K : Fr'} {mg : Str → Option Value} (T : Tx K mg) : FunD K "rows" "Loop.rows" (defArgs st_Loop_rows) (defBody st_Loop_rows) (defScope st_Loop_rows) (d_Loop_rows.dvs K) (d_Loop_rows.kws K) (He5.wf K (He.ga K "Loop") "property" "rows") (fdOf K (He5.wf K (He.ga K "Loop") "property" "rows")) := T.c.def_ 15 (d := d_Loop_rows)
theorem Tx.b_Loop_rows {K : Fr'} {mg : Str → Option Value} (T : Tx K mg) : Binds K (fdOf K (He5.wf K (He.ga K "Loop") "property" "rows")) ["self"] [] := FunD.bindsN (kws := d_Loop_rows.kws K) (T.f_Loop_rows) fun _ _ _ _ _ _ us hl => match us, hl with | [_], _ => rfl
theorem Tx.f_Loop_turns {K : Fr'} {mg : Str → Option Value} (T : Tx K mg) : FunD K "turns" "Loop.turns" (defArgs st_Loop_turns) (defBody st_Loop_turns) (defScope st_Loop_turns) (d_Loop_turns.dvs K) (d_Loop_turns.kws K) (He5.wf K (He.ga K "Loop") "property" "turns") (fdOf K (He5.wf K (He.ga K "Loop") "property" "turns")) := T.c.def_ 16 (d := d_Loop_turns)
theorem Tx.b_Loop_turns {K : Fr'} {mg : Str → Option Value} (T : Tx K mg) : Binds K (fdOf K (He5.wf K (He.ga K "Loop") "property" "turns")) ["self"] [] := FunD.bindsN (kws := d_Loop_turns.kws K) (T.f_Loop_turns) fun _ _ _ _ _ _ us hl => match us, hl with | [_], _ => rfl
theorem Tx.f_Loop_row {K : Fr'} {mg : Str → Option Value} (T : Tx K mg) : FunD K "row" "Loop.row" (defArgs st_Loop_row) (defBody st_Loop_row) (defScope st_Loop_row) (d_Loop_row.dvs K) (d_Loop_row.kws K) (He5.wf K (He.ga K "Loop") "property" "row") (fdOf K (He5.wf K (He.ga K "Loop") "property" "row")) := T.c.def_ 17 (d := d_Loop_row)
theorem Tx.b_Loop_row {K : Fr'} {mg : Str → Option Value} (T : Tx K mg) : Binds K (fdOf K (He5.wf K (He.ga K "Loop") "property" "row")) ["self"] [] := FunD.bindsN (kws := d_Loop_row.kws K) (T.f_Loop_row) fun _ _ _ _ _ _ us hl => match us, hl with | [_], _ => rfl
theorem Tx.f_Loop_made {K : Fr'} {mg : Str → Option Value} (T : Tx K mg) : FunD K "made" "Loop.made" (defArgs st_Loop_made) (defBody st_Loop_made) (defScope st_Loop_made) (d_Loop_made.dvs K) (d_Loop_made.kws K) (He5.wf K (He.ga K "Loop") "classmethod" "made") (fdOf K (He5.wf K (He.ga K "Loop") "classmethod" "made")) := T.c.def_ 18 (d := d_Loop_made)
theorem Tx.b_Loop_made {K : Fr'} {mg : Str → Option Value} (T : Tx K mg) : Binds K (fdOf K (He5.wf K (He.ga K "Loop") "classmethod" "made")) ["cls", "row"] [] := FunD.bindsN (kws := d_Loop_made.kws K) (T.f_Loop_made) fun _ _ _ _ _ _ us hl => match us, hl with | [_, _], _ => rfl
theorem Tx.f_Loop_eq {K : Fr'} {mg : Str → Option Value} (T : Tx K mg) : FunD K "__eq__" "Loop.__eq__" (defArgs st_Loop_eq) (defBody st_Loop_eq) (defScope st_Loop_eq) (d_Loop_eq.dvs K) (d_Loop_eq.kws K) (He.ma K (He.ga K "Loop") "__eq__") (fdOf K (He.ma K (He.ga K "Loop") "__eq__")) := T.c.def_ 19 (d := d_Loop_eq)
theorem Tx.b_Loop_eq {K : Fr'} {mg : Str → Option Value} (T : Tx K mg) : Binds K (fdOf K (He.ma K (He.ga K "Loop") "__eq__")) ["self", "other"] [] := FunD.bindsN (kws := d_Loop_eq.kws K) (T.f_Loop_eq) fun _ _ _ _ _ _ us hl => match us, hl with | [_, _], _ => rfl
theorem Tx.f_law_cell {K : Fr'} {mg : Str → Option Value} (T : Tx K mg) : FunD K "_law_cell" "_law_cell" (defArgs st_law_cell) (defBody st_law_cell) (defScope st_law_cell) (d_law_cell.dvs K) (d_law_cell.kws K) (He.ga K "_law_cell") (fdOf K (He.ga K "_law_cell")) := T.c.def_ 20 (d := d_law_cell)
theorem Tx.k_law_cell {K : Fr'} {mg : Str → Option Value} (T : Tx K mg) : PySem.W.keepIn K (.ref (He.ga K "_law_cell")) = true := T.f_law_cell.kp
theorem Tx.b_law_cell {K : Fr'} {mg : Str → Option Value} (T : Tx K mg) : Binds K (fdOf K (He.ga K "_law_cell")) ["_law_script", "_law_k"] [] := FunD.bindsN (kws := d_law_cell.kws K) (T.f_law_cell) fun _ _ _ _ _ _ us hl => match us, hl with | [_, _], _ => rfl
theorem Tx.f_law_pool {K : Fr'} {mg : Str → Option Value} (T : Tx K mg) : FunD K "_law_pool" "_law_pool" (defArgs st_law_pool) (defBody st_law_pool) (defScope st_law_pool) (d_law_pool.dvs K) (d_law_pool.kws K) (He.ga K "_law_pool") (fdOf K (He.ga K "_law_pool")) := T.c.def_ 21 (d := d_law_pool)
theorem Tx.k_law_pool {K : Fr'} {mg : Str → Option Value} (T : Tx K mg) : PySem.W.keepIn K (.ref (He.ga K "_law_pool")) = true := T.f_law_pool.kp
theorem Tx.b_law_pool {K : Fr'} {mg : Str → Option Value} (T : Tx K mg) : Binds K (fdOf K (He.ga K "_law_pool")) ["_law_cell_here"] [] := FunD.bindsN (kws := d_law_pool.kws K) (T.f_law_pool) fun _ _ _ _ _ _ us hl => match us, hl with | [_], _ => rfl
theorem Tx.f_law_draw {K : Fr'} {mg : Str → Option Value} (T : Tx K mg) : FunD K "_law_draw" "_law_draw" (defArgs st_law_draw) (defBody st_law_draw) (defScope st_law_draw) (d_law_draw.dvs K) (d_law_draw.kws K) (He.ga K "_law_draw") (fdOf K (He.ga K "_law_draw")) := T.c.def_ 22 (d := d_law_draw)
theorem Tx.k_law_draw {K : Fr'} {mg : Str → Option Value} (T : Tx K mg) : PySem.W.keepIn K (.ref (He.ga K "_law_draw")) = true := T.f_law_draw.kp
theorem Tx.b_law_draw {K : Fr'} {mg : Str → Option Value} (T : Tx K mg) : Binds K (fdOf K (He.ga K "_law_draw")) ["_law_pool_here", "_law_many"] [] := FunD.bindsN (kws := d_law_draw.kws K) (T.f_law_draw) fun _ _ _ _ _ _ us hl => match us, hl with | [_, _], _ => rfl
theorem Tx.f_law_shufU {K : Fr'} {mg : Str → Option Value} (T : Tx K mg) : FunD K "_law_shuffled" "_law_shuffled" (defArgs st_law_shufU) (defBody st_law_shufU) (defScope st_law_shufU) (d_law_shufU.dvs K) (d_law_shufU.kws K) (He.ga K "_law_shuffled") (fdOf K (He.ga K "_law_shuffled")) := T.c.def_ 23 (d := d_law_shufU)
theorem Tx.k_law_shufU {K : Fr'} {mg : Str → Option Value} (T : Tx K mg) : PySem.W.keepIn K (.ref (He.ga K "_law_shuffled")) = true := T.f_law_shufU.kp
theorem Tx.b_law_shufU {K : Fr'} {mg : Str → Option Value} (T : Tx K mg) : Binds K (fdOf K (He.ga K "_law_shuffled")) ["_law_pool_here", "_law_things"] [] := FunD.bindsN (kws := d_law_shufU.kws K) (T.f_law_shufU) fun _ _ _ _ _ _ us hl => match us, hl with | [_, _], _ => rfl
theorem Tx.f_law_face {K : Fr'} {mg : Str → Option Value} (T : Tx K mg) : FunD K "_law_face" "_law_face" (defArgs st_law_face) (defBody st_law_face) (defScope st_law_face) (d_law_face.dvs K) (d_law_face.kws K) (He.ga K "_law_face") (fdOf K (He.ga K "_law_face")) := T.c.def_ 24 (d := d_law_face)
theorem Tx.k_law_face {K : Fr'} {mg : Str → Option Value} (T : Tx K mg) : PySem.W.keepIn K (.ref (He.ga K "_law_face")) = true := T.f_law_face.kp
theorem Tx.b_law_face {K : Fr'} {mg : Str → Option Value} (T : Tx K mg) : Binds K (fdOf K (He.ga K "_law_face")) ["_law_thing"] [] := FunD.bindsN (kws := d_law_face.kws K) (T.f_law_face) fun _ _ _ _ _ _ us hl => match us, hl with | [_], _ => rfl
theorem Tx.f_law_signs {K : Fr'} {mg : Str → Option Value} (T : Tx K mg) : FunD K "_law_signs" "_law_signs" (defArgs st_law_signs) (defBody st_law_signs) (defScope st_law_signs) (d_law_signs.dvs K) (d_law_signs.kws K) (He.ga K "_law_signs") (fdOf K (He.ga K "_law_signs")) := T.c.def_ 25 (d := d_law_signs)
theorem Tx.k_law_signs {K : Fr'} {mg : Str → Option Value} (T : Tx K mg) : PySem.W.keepIn K (.ref (He.ga K "_law_signs")) = true := T.f_law_signs.kp
theorem Tx.b_law_signs {K : Fr'} {mg : Str → Option Value} (T : Tx K mg) : Binds K (fdOf K (He.ga K "_law_signs")) ["_law_pool_here", "_law_most"] [] := FunD.bindsN (kws := d_law_signs.kws K) (T.f_law_signs) fun _ _ _ _ _ _ us hl => match us, hl with | [_, _], _ => rfl
theorem Tx.f_law_name {K : Fr'} {mg : Str → Option Value} (T : Tx K mg) : FunD K "_law_name" "_law_name" (defArgs st_law_name) (defBody st_law_name) (defScope st_law_name) (d_law_name.dvs K) (d_law_name.kws K) (He.ga K "_law_name") (fdOf K (He.ga K "_law_name")) := T.c.def_ 26 (d := d_law_name)
theorem Tx.k_law_name {K : Fr'} {mg : Str → Option Value} (T : Tx K mg) : PySem.W.keepIn K (.ref (He.ga K "_law_name")) = true := T.f_law_name.kp
theorem Tx.b_law_name {K : Fr'} {mg : Str → Option Value} (T : Tx K mg) : Binds K (fdOf K (He.ga K "_law_name")) ["_law_pool_here", "_law_found"] [] := FunD.bindsN (kws := d_law_name.kws K) (T.f_law_name) fun _ _ _ _ _ _ us hl => match us, hl with | [_, _], _ => rfl
theorem Tx.f_law_names {K : Fr'} {mg : Str → Option Value} (T : Tx K mg) : FunD K "_law_names" "_law_names" (defArgs st_law_names) (defBody st_law_names) (defScope st_law_names) (d_law_names.dvs K) (d_law_names.kws K) (He.ga K "_law_names") (fdOf K (He.ga K "_law_names")) := T.c.def_ 27 (d := d_law_names)
theorem Tx.k_law_names {K : Fr'} {mg : Str → Option Value} (T : Tx K mg) : PySem.W.keepIn K (.ref (He.ga K "_law_names")) = true := T.f_law_names.kp
theorem Tx.b_law_names {K : Fr'} {mg : Str → Option Value} (T : Tx K mg) : Binds K (fdOf K (He.ga K "_law_names")) ["_law_pool_here", "_law_many"] [] := FunD.bindsN (kws := d_law_names.kws K) (T.f_law_names) fun _ _ _ _ _ _ us hl => match us, hl with | [_, _], _ => rfl
theorem Tx.f_law_amount {K : Fr'} {mg : Str → Option Value} (T : Tx K mg) : FunD K "_law_amount" "_law_amount" (defArgs st_law_amount) (defBody st_law_amount) (defScope st_law_amount) (d_law_amount.dvs K) (d_law_amount.kws K) (He.ga K "_law_amount") (fdOf K (He.ga K "_law_amount")) := T.c.def_ 28 (d := d_law_amount)
theorem Tx.k_law_amount {K : Fr'} {mg : Str → Option Value} (T : Tx K mg) : PySem.W.keepIn K (.ref (He.ga K "_law_amount")) = true := T.f_law_amount.kp
theorem Tx.b_law_amount {K : Fr'} {mg : Str → Option Value} (T : Tx K mg) : Binds K (fdOf K (He.ga K "_law_amount")) ["_law_pool_here", "_law_great"] [] := FunD.bindsN (kws := d_law_amount.kws K) (T.f_law_amount) fun _ _ _ _ _ _ us hl => match us, hl with | [_, _], _ => rfl
theorem Tx.f_law_model {K : Fr'} {mg : Str → Option Value} (T : Tx K mg) : FunD K "_law_model" "_law_model" (defArgs st_law_model) (defBody st_law_model) (defScope st_law_model) (d_law_model.dvs K) (d_law_model.kws K) (He.ga K "_law_model") (fdOf K (He.ga K "_law_model")) := T.c.def_ 29 (d := d_law_model)
theorem Tx.k_law_model {K : Fr'} {mg : Str → Option Value} (T : Tx K mg) : PySem.W.keepIn K (.ref (He.ga K "_law_model")) = true := T.f_law_model.kp
theorem Tx.b_law_model {K : Fr'} {mg : Str → Option Value} (T : Tx K mg) : Binds K (fdOf K (He.ga K "_law_model")) ["_law_pool_here", "_law_abc", "_law_most", "_law_great"] [] := FunD.bindsN (kws := d_law_model.kws K) (T.f_law_model) fun _ _ _ _ _ _ us hl => match us, hl with | [_, _, _, _], _ => rfl
theorem Tx.f_law_lineF {K : Fr'} {mg : Str → Option Value} (T : Tx K mg) : FunD K "_law_line" "_law_line" (defArgs st_law_lineF) (defBody st_law_lineF) (defScope st_law_lineF) (d_law_lineF.dvs K) (d_law_lineF.kws K) (He.ga K "_law_line") (fdOf K (He.ga K "_law_line")) := T.c.def_ 30 (d := d_law_lineF)
theorem Tx.k_law_lineF {K : Fr'} {mg : Str → Option Value} (T : Tx K mg) : PySem.W.keepIn K (.ref (He.ga K "_law_line")) = true := T.f_law_lineF.kp
theorem Tx.b_law_lineF {K : Fr'} {mg : Str → Option Value} (T : Tx K mg) : Binds K (fdOf K (He.ga K "_law_line")) ["_law_model_here"] [] := FunD.bindsN (kws := d_law_lineF.kws K) (T.f_law_lineF) fun _ _ _ _ _ _ us hl => match us, hl with | [_], _ => rfl
theorem Tx.f_law_parts {K : Fr'} {mg : Str → Option Value} (T : Tx K mg) : FunD K "_law_parts" "_law_parts" (defArgs st_law_parts) (defBody st_law_parts) (defScope st_law_parts) (d_law_parts.dvs K) (d_law_parts.kws K) (He.ga K "_law_parts") (fdOf K (He.ga K "_law_parts")) := T.c.def_ 31 (d := d_law_parts)
theorem Tx.k_law_parts {K : Fr'} {mg : Str → Option Value} (T : Tx K mg) : PySem.W.keepIn K (.ref (He.ga K "_law_parts")) = true := T.f_law_parts.kp
theorem Tx.b_law_parts {K : Fr'} {mg : Str → Option Value} (T : Tx K mg) : Binds K (fdOf K (He.ga K "_law_parts")) ["_law_pool_here", "_law_model_here"] [] := FunD.bindsN (kws := d_law_parts.kws K) (T.f_law_parts) fun _ _ _ _ _ _ us hl => match us, hl with | [_, _], _ => rfl
theorem Tx.f_law_is_loop {K : Fr'} {mg : Str → Option Value} (T : Tx K mg) : FunD K "_law_is_loop" "_law_is_loop" (defArgs st_law_is_loop) (defBody st_law_is_loop) (defScope st_law_is_loop) (d_law_is_loop.dvs K) (d_law_is_loop.kws K) (He.ga K "_law_is_loop") (fdOf K (He.ga K "_law_is_loop")) := T.c.def_ 32 (d := d_law_is_loop)
theorem Tx.k_law_is_loop {K : Fr'} {mg : Str → Option Value} (T : Tx K mg) : PySem.W.keepIn K (.ref (He.ga K "_law_is_loop")) = true := T.f_law_is_loop.kp
theorem Tx.b_law_is_loop {K : Fr'} {mg : Str → Option Value} (T : Tx K mg) : Binds K (fdOf K (He.ga K "_law_is_loop")) ["_law_loop", "_law_line_here"] [] := FunD.bindsN (kws := d_law_is_loop.kws K) (T.f_law_is_loop) fun _ _ _ _ _ _ us hl => match us, hl with | [_, _], _ => rfl
theorem Tx.f_law_other {K : Fr'} {mg : Str → Option Value} (T : Tx K mg) : FunD K "_law_other" "_law_other" (defArgs st_law_other) (defBody st_law_other) (defScope st_law_other) (d_law_other.dvs K) (d_law_other.kws K) (He.ga K "_law_other") (fdOf K (He.ga K "_law_other")) := T.c.def_ 33 (d := d_law_other)
theorem Tx.k_law_other {K : Fr'} {mg : Str → Option Value} (T : Tx K mg) : PySem.W.keepIn K (.ref (He.ga K "_law_other")) = true := T.f_law_other.kp
theorem Tx.b_law_other {K : Fr'} {mg : Str → Option Value} (T : Tx K mg) : Binds K (fdOf K (He.ga K "_law_other")) ["_law_pool_here", "_law_model_here"] [] := FunD.bindsN (kws := d_law_other.kws K) (T.f_law_other) fun _ _ _ _ _ _ us hl => match us, hl with | [_, _], _ => rfl
theorem Tx.f_law_right {K : Fr'} {mg : Str → Option Value} (T : Tx K mg) : FunD K "_law_right" "_law_right" (defArgs st_law_right) (defBody st_law_right) (defScope st_law_right) (d_law_right.dvs K) (d_law_right.kws K) (He.ga K "_law_right") (fdOf K (He.ga K "_law_right")) := T.c.def_ 34 (d := d_law_right)
theorem Tx.k_law_right {K : Fr'} {mg : Str → Option Value} (T : Tx K mg) : PySem.W.keepIn K (.ref (He.ga K "_law_right")) = true := T.f_law_right.kp
theorem Tx.b_law_right {K : Fr'} {mg : Str → Option Value} (T : Tx K mg) : Binds K (fdOf K (He.ga K "_law_right")) ["_law_pool_here"] [] := FunD.bindsN (kws := d_law_right.kws K) (T.f_law_right) fun _ _ _ _ _ _ us hl => match us, hl with | [_], _ => rfl
theorem Tx.f_law {K : Fr'} {mg : Str → Option Value} (T : Tx K mg) : FunD K "law" "law" (defArgs st_law) (defBody st_law) (defScope st_law) (d_law.dvs K) (d_law.kws K) (He.ga K "law") (fdOf K (He.ga K "law")) := T.c.def_ 35 (d := d_law)
theorem Tx.qLoop_init_5_yes {K : Fr'} {mg : Str → Option Value} (T : Tx K mg) : ∃ g, KBn K (fdOf K (He.ma K (He.ga K "Loop") "__init__")) ["self", "signs", "states", "rows", "turns", "yes"] 5 (["yes"] : List Str) g (fun vs zs => selG [(0, 0), (0, 1), (0, 2), (0, 3), (0, 4), (2, 0)] vs [(.ref (He.dflAt ("Loop", some "__init__") 0 K))] [] zs) := by
  have h := kbnD (ps := ["self", "signs", "states", "rows", "turns", "yes"]) (T.f_Loop_init) 5 (["yes"] : List Str) [(0, 0), (0, 1), (0, 2), (0, 3), (0, 4), (2, 0)] (by simp [d_Loop_init, He5.DefA.dvs]) (fun _ _ _ _ _ _ _ us its ws h1 h2 h3 => match us, its, ws, h1, h2, h3 with | [_, _, _, _, _], [_], [_], _, _, _ => ⟨_, rfl, rfl⟩)
  have e : d_Loop_init.dvs K = [(.ref (He.dflAt ("Loop", some "__init__") 0 K))] := by
    simp only [d_Loop_init, He5.DefA.dvs, List.map, He.Dv.v, lit_abc]
  rw [e] at h
  exact h
theorem Tx.qLoop_init_1_yes_turns_rows_states_signs {K : Fr'} {mg : Str → Option Value} (T : Tx K mg) : ∃ g, KBn K (fdOf K (He.ma K (He.ga K "Loop") "__init__")) ["self", "signs", "states", "rows", "turns", "yes"] 1 (["yes", "turns", "rows", "states", "signs"] : List Str) g (fun vs zs => selG [(0, 0), (2, 4), (2, 3), (2, 2), (2, 1), (2, 0)] vs [(.ref (He.dflAt ("Loop", some "__init__") 0 K))] [] zs) := by
  have h := kbnD (ps := ["self", "signs", "states", "rows", "turns", "yes"]) (T.f_Loop_init) 1 (["yes", "turns", "rows", "states", "signs"] : List Str) [(0, 0), (2, 4), (2, 3), (2, 2), (2, 1), (2, 0)] (by simp [d_Loop_init, He5.DefA.dvs]) (fun _ _ _ _ _ _ _ us its ws h1 h2 h3 => match us, its, ws, h1, h2, h3 with | [_], [_], [_, _, _, _, _], _, _, _ => ⟨_, rfl, rfl⟩)
  have e : d_Loop_init.dvs K = [(.ref (He.dflAt ("Loop", some "__init__") 0 K))] := by
    simp only [d_Loop_init, He5.DefA.dvs, List.map, He.Dv.v, lit_abc]
  rw [e] at h
  exact h
theorem Tx.qLoop_made_1_row {K : Fr'} {mg : Str → Option Value} (T : Tx K mg) : ∃ g, KBn K (fdOf K (He5.wf K (He.ga K "Loop") "classmethod" "made")) ["cls", "row"] 1 (["row"] : List Str) g (fun vs zs => selG [(0, 0), (2, 0)] vs [] [] zs) := kbnN (kws := d_Loop_made.kws K) (T.f_Loop_made) 1 (["row"] : List Str) [(0, 0), (2, 0)] fun _ _ _ _ _ _ us ws h1 h2 => match us, ws, h1, h2 with | [_], [_], _, _ => rfl
theorem Tx.qLoop_init_4 {K : Fr'} {mg : Str → Option Value} (T : Tx K mg) : ∃ g, KBn K (fdOf K (He.ma K (He.ga K "Loop") "__init__")) ["self", "signs", "states", "rows", "turns", "yes"] 4 ([] : List Str) g (fun vs zs => selG [(0, 0), (0, 1), (0, 2), (0, 3), (1, 0), (3, 0)] vs [(.ref (He.dflAt ("Loop", some "__init__") 0 K))] [(.ref (kwdAt ("Loop", some "__init__") "yes" K))] zs) := by
  have h := kbnK (ps := ["self", "signs", "states", "rows", "turns", "yes"]) (T.f_Loop_init) 4 ([] : List Str) [("yes", (.ref (kwdAt ("Loop", some "__init__") "yes" K)))] [(0, 0), (0, 1), (0, 2), (0, 3), (1, 0), (3, 0)] (by simp [d_Loop_init, He5.DefA.dvs]) (by simp [d_Loop_init, He5.DefA.kws]) (by simp [d_Loop_init, He5.DefA.kws, He.Dv.v]) (fun _ _ _ _ _ _ _ us its mv ws h1 h2 h3 h4 => match us, its, mv, ws, h1, h2, h3, h4 with | [_, _, _, _], [_], [_], [], _, _, _, _ => ⟨_, rfl, _, _, _, _, _, _, rfl, rfl, rfl⟩)
  have e : d_Loop_init.dvs K = [(.ref (He.dflAt ("Loop", some "__init__") 0 K))] := by
    simp only [d_Loop_init, He5.DefA.dvs, List.map, He.Dv.v, lit_abc]
  rw [e] at h
  exact h
section
variable {P : Program} {w : World} {K : Fr'} {mg : Str → Option Value} {base : Heap}
theorem sc_is_integer : FnScope ["value"] ["value"] (defScope st_is_integer) := ⟨rfl, rfl, rfl, by decide +kernel, rfl, by decide +kernel, by decide +kernel⟩
theorem ok_is_integer (T : Tx K mg) : FnOk P w K mg base CX0 1 (He.ga K "is_integer") (fdOf K (He.ga K "is_integer")) ["value"] (sp_is_integer K) := by
  have sc := sc_is_integer
  refine T.f_is_integer.ok sc (fun vs H Q E h => ?_) (fun cdv A outer s H vs Q E hr h => ⟨t_is_integer K, PSs.nox ?_, pure_is_integer h⟩)
  · obtain ⟨_, _, rfl, _⟩ := h
    rfl
  · exact (pss_one (ps_ret (pe_and (pe_callB call_isi (by rfl) T.n_isinstance (by decide +kernel) (pa_cons (pv 0) (pa_cons (pe_bltn (by rfl) T.n_int (by decide +kernel) rfl) pa_nil))) (pe_one (pe_not (pe_callB call_isi (by rfl) T.n_isinstance (by decide +kernel) (pa_cons (pv 0) (pa_cons (pe_bltn (by rfl) T.n_bool (by decide +kernel) rfl) pa_nil))))))))
theorem sc_is_name : FnScope ["value", "mark"] ["value"] (defScope st_is_name) := ⟨rfl, rfl, rfl, by decide +kernel, rfl, by decide +kernel, by decide +kernel⟩
theorem ok_is_name (T : Tx K mg) : FnOk P w K mg base CX0 1 (He.ga K "is_name") (fdOf K (He.ga K "is_name")) ["value"] (sp_is_name K) := by
  have sc := sc_is_name
  refine T.f_is_name.ok sc (fun vs H Q E h => ?_) (fun cdv A outer s H vs Q E hr h => ⟨t_is_name K, PSs.nox ?_, pure_is_name h⟩)
  · obtain ⟨_, rfl, _⟩ := h
    rfl
  · exact (pss_cons (ps_if (PW.pt (pw_or (pt_not (pt_val (pe_callB call_isi (by rfl) T.n_isinstance (by decide +kernel) (pa_cons (pv 0) (pa_cons (pe_bltn (by rfl) T.n_str (by decide +kernel) rfl) pa_nil))))) (pw_or1 (pt_not (pt_chain op_le op_le pe_int (pe_callB call_len (by rfl) T.n_len (by decide +kernel) (pa_cons (pv 0) pa_nil)) (pe_globI (by rfl) T.g_LONGEST_NAME)))))) (pss_one (ps_ret pe_bl)) pss_nil)
  (pss_one (ps_ret (pe_and (pe_cmpR op_in_sign (pe_ix ix_str (pv 0) pe_int (fun _ _ => rfl)) (pe_globS (by rfl) T.g_LETTERS) (by rfl)) (pe_one (pe_callB (cr_all rfl) (by rfl) T.n_all (by decide +kernel) (pa_cons (pe_lc (own := [("mark", 1)]) (g := gName 1) (by rfl) sc.nd (pi_str (pv 0)) (blkOk_by (own := [("mark", 1)]) (by kernel_rfl)) (fun _ _ _ _ _ => pg_name (i := 1) sc.nd rfl (by first | exact Or.inl rfl | exact Or.inr rfl)) (fun _ _ _ _ _ => pts_nil) (fun _ _ _ _ _ => (pe_cmpR op_in_sign (pv 1) (pe_globS (by rfl) T.g_MARKS) (by rfl)))) pa_nil)))))))
theorem sc_is_word : FnScope ["value", "signs", "sign"] ["value", "signs"] (defScope st_is_word) := ⟨rfl, rfl, rfl, by decide +kernel, rfl, by decide +kernel, by decide +kernel⟩
theorem ok_is_word (T : Tx K mg) : FnOk P w K mg base CX0 1 (He.ga K "is_word") (fdOf K (He.ga K "is_word")) ["value", "signs"] (sp_is_word K) := by
  have sc := sc_is_word
  refine T.f_is_word.ok sc (fun vs H Q E h => ?_) (fun cdv A outer s H vs Q E hr h => ⟨t_is_word K, PSs.nox ?_, pure_is_word h⟩)
  · obtain ⟨_, _, rfl, _⟩ := h
    rfl
  · exact (pss_cons (ps_if (PW.pt (pw_or (pt_not (pt_val (pe_callB call_isi (by rfl) T.n_isinstance (by decide +kernel) (pa_cons (pv 0) (pa_cons (pe_bltn (by rfl) T.n_str (by decide +kernel) rfl) pa_nil))))) (pw_or1 (pt_not (pt_chain op_le op_le pe_int (pe_callB call_len (by rfl) T.n_len (by decide +kernel) (pa_cons (pv 0) pa_nil)) (pe_globI (by rfl) T.g_MOST_WORD)))))) (pss_one (ps_ret pe_bl)) pss_nil)
  (pss_one (ps_ret (pe_callB (cr_all rfl) (by rfl) T.n_all (by decide +kernel) (pa_cons (pe_lc (own := [("sign", 2)]) (g := gName 2) (by rfl) sc.nd (pi_str (pv 0)) (blkOk_by (own := [("sign", 2)]) (by kernel_rfl)) (fun _ _ _ _ _ => pg_name (i := 2) sc.nd rfl (by first | exact Or.inl rfl | exact Or.inr rfl)) (fun _ _ _ _ _ => pts_nil) (fun _ _ _ _ _ => (pe_cmpR op_in_sign (pv 2) (pv 1) (by rfl)))) pa_nil)))))
theorem sc_is_row : FnScope ["value", "length"] ["value", "length"] (defScope st_is_row) := ⟨rfl, rfl, rfl, by decide +kernel, rfl, by decide +kernel, by decide +kernel⟩
theorem ok_is_row (T : Tx K mg) : FnOk P w K mg base CX0 1 (He.ga K "is_row") (fdOf K (He.ga K "is_row")) ["value", "length"] (sp_is_row K) := by
  have sc := sc_is_row
  refine T.f_is_row.ok sc (fun vs H Q E h => ?_) (fun cdv A outer s H vs Q E hr h => ⟨t_is_row K, PSs.nox ?_, pure_is_row h⟩)
  · obtain ⟨_, _, rfl, _⟩ := h
    rfl
  · exact (pss_one (ps_ret (pe_and (pe_callB call_isi (by rfl) T.n_isinstance (by decide +kernel) (pa_cons (pv 0) (pa_cons (pe_bltn (by rfl) T.n_tuple (by decide +kernel) rfl) pa_nil))) (pe_one (pe_cmpR op_eq (pe_callB call_len (by rfl) T.n_len (by decide +kernel) (pa_cons (pv 0) pa_nil)) (pv 1) (nomark _))))))
theorem sc_check_signs : FnScope ["signs"] ["signs"] (defScope st_check_signs) := ⟨rfl, rfl, rfl, by decide +kernel, rfl, by decide +kernel, by decide +kernel⟩
theorem ok_check_signs (T : Tx K mg) : FnOk P w K mg base CX0 2 (He.ga K "check_signs") (fdOf K (He.ga K "check_signs")) ["signs"] (sp_check_signs K) := by
  have sc := sc_check_signs
  obtain ⟨ds_is_word, dv_is_word, db_is_word⟩ := T.bd1_is_word
  refine T.f_check_signs.ok sc (fun vs H Q E h => ?_) (fun cdv A outer s H vs Q E hr h => ⟨t_check_signs K, PSs.nox ?_, pure_check_signs h⟩)
  · obtain ⟨_, rfl, _⟩ := h
    rfl
  · exact (pss_one (ps_if (PW.pt (pw_or (pt_not (pt_val (pe_call (ok_is_word T) (hr.mono (by decide)) (by rfl) T.g_is_word T.k_is_word db_is_word dv_is_word pass0 (pa_cons (pv 0) pa_nil)))) (pw_or (pt_cmpR op_gt (pe_callB call_len (by rfl) T.n_len (by decide +kernel) (pa_cons (pv 0) pa_nil)) (pe_globI (by rfl) T.g_MOST_SIGNS) (nomark _)) (pw_or1 (pt_cmpR op_lt (pe_lenSetS rfl (by rfl) T.n_len (by rfl) T.n_set (pv 0)) (pe_callB call_len (by rfl) T.n_len (by decide +kernel) (pa_cons (pv 0) pa_nil)) (nomark _)))))) (pss_one ps_never) pss_nil))
theorem sc_is_step : FnScope ["row", "signs", "states"] ["row", "signs", "states"] (defScope st_is_step) := ⟨rfl, rfl, rfl, by decide +kernel, rfl, by decide +kernel, by decide +kernel⟩
theorem ok_is_step (T : Tx K mg) : FnOk P w K mg base CX0 2 (He.ga K "is_step") (fdOf K (He.ga K "is_step")) ["row", "signs", "states"] (sp_is_step K) := by
  have sc := sc_is_step
  refine T.f_is_step.ok sc (fun vs H Q E h => ?_) (fun cdv A outer s H vs Q E hr h => ⟨t_is_step K, PSs.nox ?_, pure_is_step h⟩)
  · obtain ⟨_, _, _, rfl, _⟩ := h
    rfl
  · exact (pss_cons (ps_if (PW.pt (pw_or (pt_not (pt_val (pe_call (ok_is_row T) (hr.mono (by decide)) (by rfl) T.g_is_row T.k_is_row T.b_is_row .nil pass0 (pa_cons (pv 0) (pa_cons pe_int pa_nil))))) (pw_or (pt_not (pt_val (pe_call (ok_is_word T) (hr.mono (by decide)) (by rfl) T.g_is_word T.k_is_word T.bf_is_word .nil pass0 (pa_cons (pe_ix ix_tup (pv 0) pe_int (fun _ _ => rfl)) (pa_cons (pv 1) pa_nil))))) (pw_or1 (pt_cmpR op_ne (pe_callB call_len (by rfl) T.n_len (by decide +kernel) (pa_cons (pe_ix ix_tup (pv 0) pe_int (fun _ _ => rfl)) pa_nil)) pe_int (nomark _)))))) (pss_one (ps_ret pe_bl)) pss_nil)
  (pss_one (ps_ret (pe_and (pe_cmpR op_in_seq (pe_ix ix_tup (pv 0) pe_int (fun _ _ => rfl)) (pv 2) (by rfl)) (pe_and (pe_cmpR op_in_seq (pe_ix ix_tup (pv 0) pe_int (fun _ _ => rfl)) (pv 2) (by rfl)) (pe_one (pe_call (ok_is_integer T) (hr.mono (by decide)) (by rfl) T.g_is_integer T.k_is_integer T.b_is_integer .nil pass0 (pa_cons (pe_ix ix_tup (pv 0) pe_int (fun _ _ => rfl)) pa_nil))))))))
theorem sc_is_turn : FnScope ["turn", "states"] ["turn", "states"] (defScope st_is_turn) := ⟨rfl, rfl, rfl, by decide +kernel, rfl, by decide +kernel, by decide +kernel⟩
theorem ok_is_turn (T : Tx K mg) : FnOk P w K mg base CX0 2 (He.ga K "is_turn") (fdOf K (He.ga K "is_turn")) ["turn", "states"] (sp_is_turn K) := by
  have sc := sc_is_turn
  refine T.f_is_turn.ok sc (fun vs H Q E h => ?_) (fun cdv A outer s H vs Q E hr h => ⟨t_is_turn K, PSs.nox ?_, pure_is_turn h⟩)
  · obtain ⟨_, _, rfl, _⟩ := h
    rfl
  · exact (pss_one (ps_ret (pe_and (pe_call (ok_is_row T) (hr.mono (by decide)) (by rfl) T.g_is_row T.k_is_row T.b_is_row .nil pass0 (pa_cons (pv 0) (pa_cons pe_int pa_nil))) (pe_and (pe_cmpR op_in_seq (pe_ix ix_tup (pv 0) pe_int (fun _ _ => rfl)) (pv 1) (by rfl)) (pe_and (pe_cmpR op_in_seq (pe_ix ix_tup (pv 0) pe_int (fun _ _ => rfl)) (pv 1) (by rfl)) (pe_one (pe_call (ok_is_integer T) (hr.mono (by decide)) (by rfl) T.g_is_integer T.k_is_integer T.b_is_integer .nil pass0 (pa_cons (pe_ix ix_tup (pv 0) pe_int (fun _ _ => rfl)) pa_nil))))))))
theorem sc_check_states : FnScope ["states", "index", "state"] ["states"] (defScope st_check_states) := ⟨rfl, rfl, rfl, by decide +kernel, rfl, by decide +kernel, by decide +kernel⟩
theorem ok_check_states (T : Tx K mg) : FnOk P w K mg base CX0 2 (He.ga K "check_states") (fdOf K (He.ga K "check_states")) ["states"] (sp_check_states K) := by
  have sc := sc_check_states
  refine T.f_check_states.ok sc (fun vs H Q E h => ?_) (fun cdv A outer s H vs Q E hr h => ⟨t_check_states K, PSs.nox ?_, pure_check_states h⟩)
  · obtain ⟨_, rfl, _⟩ := h
    rfl
  · exact (pss_cons (ps_if (PW.pt (pw_or (pt_not (pt_val (pe_callB call_isi (by rfl) T.n_isinstance (by decide +kernel) (pa_cons (pv 0) (pa_cons (pe_bltn (by rfl) T.n_tuple (by decide +kernel) rfl) pa_nil))))) (pw_or1 (pt_cmpR op_eq (pe_callB call_len (by rfl) T.n_len (by decide +kernel) (pa_cons (pv 0) pa_nil)) pe_int (nomark _))))) (pss_one ps_never) pss_nil)
  (pss_one (ps_for PassesOwn.never rfl (pi_enumT (by rfl) T.n_enumerate (pa_cons (pv 0) pa_nil)) (pg_tup rfl (pgs_cons (pg_name (i := 1) sc.nd rfl (by first | exact Or.inl rfl | exact Or.inr rfl)) (pgs_cons (pg_name (i := 2) sc.nd rfl (by first | exact Or.inl rfl | exact Or.inr rfl)) pgs_nil))) (pss_one (ps_if (PW.pt (pw_or (pt_cmpR op_eq (pv 1) (pe_globI (by rfl) T.g_MOST_STATES) (nomark _)) (pw_or (pt_not (pt_val (pe_call (ok_is_name T) (hr.mono (by decide)) (by rfl) T.g_is_name T.k_is_name T.b_is_name .nil pass0 (pa_cons (pv 2) pa_nil)))) (pw_or1 (pt_cmpR op_in_seq (pv 2) (pe_slice sl_tupA (pv 0) po_none (po_some (pv 1))) (by rfl)))))) (pss_one ps_never) pss_nil)))))
theorem sc_check_rows : FnScope ["signs", "states", "rows", "seen", "index", "row"] ["signs", "states", "rows"] (defScope st_check_rows) := ⟨rfl, rfl, rfl, by decide +kernel, rfl, by decide +kernel, by decide +kernel⟩
theorem ok_check_rows (T : Tx K mg) : FnOk P w K mg base CX0 3 (He.ga K "check_rows") (fdOf K (He.ga K "check_rows")) ["signs", "states", "rows"] (sp_check_rows K) := by
  have sc := sc_check_rows
  refine T.f_check_rows.ok sc (fun vs H Q E h => ?_) (fun cdv A outer s H vs Q E hr h => ⟨t_check_rows K, PSs.nox ?_, pure_check_rows h⟩)
  · obtain ⟨_, _, _, rfl, _⟩ := h
    rfl
  · exact (pss_cons (ps_if (pt_not (pt_val (pe_callB call_isi (by rfl) T.n_isinstance (by decide +kernel) (pa_cons (pv 2) (pa_cons (pe_bltn (by rfl) T.n_tuple (by decide +kernel) rfl) pa_nil))))) (pss_one ps_never) pss_nil)
  (pss_cons (ps_set (i := 3) sc.nd rfl (by first | exact Or.inl rfl | exact Or.inr rfl) (pe_lst pa_nil))
  (pss_cons (ps_for PassesOwn.never rfl (pi_enumT (by rfl) T.n_enumerate (pa_cons (pv 2) pa_nil)) (pg_tup rfl (pgs_cons (pg_name (i := 4) sc.nd rfl (by first | exact Or.inl rfl | exact Or.inr rfl)) (pgs_cons (pg_name (i := 5) sc.nd rfl (by first | exact Or.inl rfl | exact Or.inr rfl)) pgs_nil))) (pss_cons (ps_if (PW.pt (pw_or (pt_not (pt_val (pe_call (ok_is_step T) (hr.mono (by decide)) (by rfl) T.g_is_step T.k_is_step T.b_is_step .nil pass0 (pa_cons (pv 5) (pa_cons (pv 0) (pa_cons (pv 1) pa_nil)))))) (pw_or1 (pt_cmpR (op_inD hr.u65) (pe_slice sl_tupA (pv 5) po_none (po_some pe_int)) (pv 3) (by rfl))))) (pss_one ps_never) pss_nil)
  (pss_one (ps_expr (pe_bm PySem.F.plainAttrs_list PySem.F.slot_list_append PySem.F.type_list_append mt_append (pv 3) (pa_cons (pe_slice sl_tupA (pv 5) po_none (po_some pe_int)) pa_nil))))))
  (pss_one (ps_if (pt_cmpR op_lt (pe_callB call_len (by rfl) T.n_len (by decide +kernel) (pa_cons (pv 2) pa_nil)) (pe_op op_mul (pe_callB call_len (by rfl) T.n_len (by decide +kernel) (pa_cons (pv 0) pa_nil)) (pe_callB call_len (by rfl) T.n_len (by decide +kernel) (pa_cons (pv 1) pa_nil))) (nomark _)) (pss_one ps_never) pss_nil)))))
theorem sc_check_turns : FnScope ["states", "turns", "seen", "index", "turn"] ["states", "turns"] (defScope st_check_turns) := ⟨rfl, rfl, rfl, by decide +kernel, rfl, by decide +kernel, by decide +kernel⟩
theorem ok_check_turns (T : Tx K mg) : FnOk P w K mg base CX0 3 (He.ga K "check_turns") (fdOf K (He.ga K "check_turns")) ["states", "turns"] (sp_check_turns K) := by
  have sc := sc_check_turns
  refine T.f_check_turns.ok sc (fun vs H Q E h => ?_) (fun cdv A outer s H vs Q E hr h => ⟨t_check_turns K, PSs.nox ?_, pure_check_turns h⟩)
  · obtain ⟨_, _, rfl, _⟩ := h
    rfl
  · exact (pss_cons (ps_if (pt_not (pt_val (pe_callB call_isi (by rfl) T.n_isinstance (by decide +kernel) (pa_cons (pv 1) (pa_cons (pe_bltn (by rfl) T.n_tuple (by decide +kernel) rfl) pa_nil))))) (pss_one ps_never) pss_nil)
  (pss_cons (ps_set (i := 2) sc.nd rfl (by first | exact Or.inl rfl | exact Or.inr rfl) (pe_lst pa_nil))
  (pss_one (ps_for PassesOwn.never rfl (pi_enumT (by rfl) T.n_enumerate (pa_cons (pv 1) pa_nil)) (pg_tup rfl (pgs_cons (pg_name (i := 3) sc.nd rfl (by first | exact Or.inl rfl | exact Or.inr rfl)) (pgs_cons (pg_name (i := 4) sc.nd rfl (by first | exact Or.inl rfl | exact Or.inr rfl)) pgs_nil))) (pss_cons (ps_if (PW.pt (pw_or (pt_not (pt_val (pe_call (ok_is_turn T) (hr.mono (by decide)) (by rfl) T.g_is_turn T.k_is_turn T.b_is_turn .nil pass0 (pa_cons (pv 4) (pa_cons (pv 0) pa_nil))))) (pw_or1 (pt_cmpR op_in_seq (pe_ix ix_tup (pv 4) pe_int (fun _ _ => rfl)) (pv 2) (by rfl))))) (pss_one ps_never) pss_nil)
  (pss_one (ps_expr (pe_bm PySem.F.plainAttrs_list PySem.F.slot_list_append PySem.F.type_list_append mt_append (pv 2) (pa_cons (pe_ix ix_tup (pv 4) pe_int (fun _ _ => rfl)) pa_nil)))))))))
theorem sc_check_yes : FnScope ["states", "yes", "index", "state"] ["states", "yes"] (defScope st_check_yes) := ⟨rfl, rfl, rfl, by decide +kernel, rfl, by decide +kernel, by decide +kernel⟩
theorem ok_check_yes (T : Tx K mg) : FnOk P w K mg base CX0 1 (He.ga K "check_yes") (fdOf K (He.ga K "check_yes")) ["states", "yes"] (sp_check_yes K) := by
  have sc := sc_check_yes
  refine T.f_check_yes.ok sc (fun vs H Q E h => ?_) (fun cdv A outer s H vs Q E hr h => ⟨t_check_yes K, PSs.nox ?_, pure_check_yes h⟩)
  · obtain ⟨_, _, rfl, _⟩ := h
    rfl
  · exact (pss_cons (ps_if (pt_not (pt_val (pe_callB call_isi (by rfl) T.n_isinstance (by decide +kernel) (pa_cons (pv 1) (pa_cons (pe_bltn (by rfl) T.n_tuple (by decide +kernel) rfl) pa_nil))))) (pss_one ps_never) pss_nil)
  (pss_one (ps_for PassesOwn.never rfl (pi_enumT (by rfl) T.n_enumerate (pa_cons (pv 1) pa_nil)) (pg_tup rfl (pgs_cons (pg_name (i := 2) sc.nd rfl (by first | exact Or.inl rfl | exact Or.inr rfl)) (pgs_cons (pg_name (i := 3) sc.nd rfl (by first | exact Or.inl rfl | exact Or.inr rfl)) pgs_nil))) (pss_one (ps_if (PW.pt (pw_or (pt_cmpR op_notIn_seq (pv 3) (pv 0) (by rfl)) (pw_or1 (pt_cmpR op_in_seq (pv 3) (pe_slice sl_tupA (pv 1) po_none (po_some (pv 2))) (by rfl))))) (pss_one ps_never) pss_nil)))))
theorem sc_Loop_init : FnScope ["self", "signs", "states", "rows", "turns", "yes", "state", "sign", "later", "amount", "given"] ["self", "signs", "states", "rows", "turns", "yes"] (defScope st_Loop_init) := ⟨rfl, rfl, rfl, by decide +kernel, rfl, by decide +kernel, by decide +kernel⟩
theorem ok_Loop_init (T : Tx K mg) : FnOk P w K mg base CX0 4 (He.ma K (He.ga K "Loop") "__init__") (fdOf K (He.ma K (He.ga K "Loop") "__init__")) ["self", "signs", "states", "rows", "turns", "yes"] (sp_Loop_init K) := by
  have sc := sc_Loop_init
  refine T.f_Loop_init.ok sc (fun vs H Q E h => ?_) (fun cdv A outer s H vs Q E hr h => ⟨t_Loop_init K, PSs.nox ?_, pure_Loop_init T.loopK h⟩)
  · obtain ⟨_, _, _, _, _, _, _, rfl, _⟩ := h
    rfl
  · exact (pss_cons (ps_expr (pe_call (ok_check_signs T) (hr.mono (by decide)) (by rfl) T.g_check_signs T.k_check_signs T.b_check_signs .nil pass0 (pa_cons (pv 1) pa_nil)))
  (pss_cons (ps_expr (pe_call (ok_check_states T) (hr.mono (by decide)) (by rfl) T.g_check_states T.k_check_states T.b_check_states .nil pass0 (pa_cons (pv 2) pa_nil)))
  (pss_cons (ps_expr (pe_call (ok_check_rows T) (hr.mono (by decide)) (by rfl) T.g_check_rows T.k_check_rows T.b_check_rows .nil pass0 (pa_cons (pv 1) (pa_cons (pv 2) (pa_cons (pv 3) pa_nil)))))
  (pss_cons (ps_expr (pe_call (ok_check_turns T) (hr.mono (by decide)) (by rfl) T.g_check_turns T.k_check_turns T.b_check_turns .nil pass0 (pa_cons (pv 2) (pa_cons (pv 4) pa_nil))))
  (pss_cons (ps_expr (pe_call (ok_check_yes T) (hr.mono (by decide)) (by rfl) T.g_check_yes T.k_check_yes T.b_check_yes .nil pass0 (pa_cons (pv 2) (pa_cons (pv 5) pa_nil))))
  (pss_cons (ps_fld (pv 0) (pe_join pe_str (pe_callB (cr_srt rfl) (by rfl) T.n_sorted (by decide +kernel) (pa_cons (pv 1) pa_nil))) rfl)
  (pss_cons (ps_fld (pv 0) (pv 2) rfl)
  (pss_cons (ps_fld (pv 0) (pe_dcT (own := [("state", 6), ("sign", 7), ("later", 8), ("amount", 9)]) (by rfl) hr.u1 sc.nd (pi_tup (pv 3)) (blkOk_by (own := [("state", 6), ("sign", 7), ("later", 8), ("amount", 9)]) (by kernel_rfl)) (fun _ _ _ _ _ => (pg_tup rfl (pgs_cons (pg_name (i := 6) sc.nd rfl (by first | exact Or.inl rfl | exact Or.inr rfl)) (pgs_cons (pg_name (i := 7) sc.nd rfl (by first | exact Or.inl rfl | exact Or.inr rfl)) (pgs_cons (pg_name (i := 8) sc.nd rfl (by first | exact Or.inl rfl | exact Or.inr rfl)) (pgs_cons (pg_name (i := 9) sc.nd rfl (by first | exact Or.inl rfl | exact Or.inr rfl)) pgs_nil)))))) (fun _ _ _ _ _ => pts_nil) (fun _ _ _ _ _ => (pe_tup (pa_cons (pv 6) (pa_cons (pv 7) pa_nil)))) (fun _ _ _ _ _ => (pe_tup (pa_cons (pv 8) (pa_cons (pv 9) pa_nil))))) rfl)
  (pss_cons (ps_set (i := 10) sc.nd rfl (by first | exact Or.inl rfl | exact Or.inr rfl) (pe_dc (own := [("state", 6), ("later", 8), ("amount", 9)]) (by rfl) sc.nd (pi_tup (pv 4)) (blkOk_by (own := [("state", 6), ("later", 8), ("amount", 9)]) (by kernel_rfl)) (fun _ _ _ _ _ => (pg_tup rfl (pgs_cons (pg_name (i := 6) sc.nd rfl (by first | exact Or.inl rfl | exact Or.inr rfl)) (pgs_cons (pg_name (i := 8) sc.nd rfl (by first | exact Or.inl rfl | exact Or.inr rfl)) (pgs_cons (pg_name (i := 9) sc.nd rfl (by first | exact Or.inl rfl | exact Or.inr rfl)) pgs_nil))))) (fun _ _ _ _ _ => pts_nil) (fun _ _ _ _ _ => (pv 6)) (fun _ _ _ _ _ => (pe_tup (pa_cons (pv 8) (pa_cons (pv 9) pa_nil))))))
  (pss_cons (ps_fld (pv 0) (pe_dc (own := [("state", 6)]) (by rfl) sc.nd (pi_tup (pv 2)) (blkOk_by (own := [("state", 6)]) (by kernel_rfl)) (fun _ _ _ _ _ => pg_name (i := 6) sc.nd rfl (by first | exact Or.inl rfl | exact Or.inr rfl)) (fun _ _ _ _ _ => pts_nil) (fun _ _ _ _ _ => (pv 6)) (fun _ _ _ _ _ => (pe_dget2 hr.u1 (pv 10) (pv 6) (pe_tup (pa_cons (pv 6) (pa_cons pe_int pa_nil))) ⟨rfl, rfl, rfl, rfl⟩))) rfl)
  (pss_one (ps_fld (pv 0) (pe_callTy call_tuple_of (by rfl) T.n_tuple (by decide +kernel) (pa_cons (pe_lc (own := [("state", 6)]) (g := gName 6) (by rfl) sc.nd (pi_tup (pv 2)) (blkOk_by (own := [("state", 6)]) (by kernel_rfl)) (fun _ _ _ _ _ => pg_name (i := 6) sc.nd rfl (by first | exact Or.inl rfl | exact Or.inr rfl)) (fun _ _ _ _ _ => (pts_one (pt_cmpR op_in_seq (pv 6) (pv 5) (by rfl)))) (fun _ _ _ _ _ => (pv 6))) pa_nil)) rfl))))))))))))
theorem sc_Loop_signs : FnScope ["self"] ["self"] (defScope st_Loop_signs) := ⟨rfl, rfl, rfl, by decide +kernel, rfl, by decide +kernel, by decide +kernel⟩
theorem ok_Loop_signs (T : Tx K mg) : FnOk P w K mg base CX0 1 (He5.wf K (He.ga K "Loop") "property" "signs") (fdOf K (He5.wf K (He.ga K "Loop") "property" "signs")) ["self"] (sp_Loop_signs K) := by
  have sc := sc_Loop_signs
  refine T.f_Loop_signs.ok sc (fun vs H Q E h => ?_) (fun cdv A outer s H vs Q E hr h => ⟨t_Loop_signs K, PSs.nox ?_, pure_Loop_signs T.loopK h⟩)
  · obtain ⟨_, rfl, _⟩ := h
    rfl
  · exact (pss_one (ps_ret (pe_fld (pv 0) rfl)))
theorem sc_Loop_states : FnScope ["self"] ["self"] (defScope st_Loop_states) := ⟨rfl, rfl, rfl, by decide +kernel, rfl, by decide +kernel, by decide +kernel⟩
theorem ok_Loop_states (T : Tx K mg) : FnOk P w K mg base CX0 1 (He5.wf K (He.ga K "Loop") "property" "states") (fdOf K (He5.wf K (He.ga K "Loop") "property" "states")) ["self"] (sp_Loop_states K) := by
  have sc := sc_Loop_states
  refine T.f_Loop_states.ok sc (fun vs H Q E h => ?_) (fun cdv A outer s H vs Q E hr h => ⟨t_Loop_states K, PSs.nox ?_, pure_Loop_states T.loopK h⟩)
  · obtain ⟨_, rfl, _⟩ := h
    rfl
  · exact (pss_one (ps_ret (pe_fld (pv 0) rfl)))
theorem sc_Loop_yes : FnScope ["self"] ["self"] (defScope st_Loop_yes) := ⟨rfl, rfl, rfl, by decide +kernel, rfl, by decide +kernel, by decide +kernel⟩
theorem ok_Loop_yes (T : Tx K mg) : FnOk P w K mg base CX0 1 (He5.wf K (He.ga K "Loop") "property" "yes") (fdOf K (He5.wf K (He.ga K "Loop") "property" "yes")) ["self"] (sp_Loop_yes K) := by
  have sc := sc_Loop_yes
  refine T.f_Loop_yes.ok sc (fun vs H Q E h => ?_) (fun cdv A outer s H vs Q E hr h => ⟨t_Loop_yes K, PSs.nox ?_, pure_Loop_yes T.loopK h⟩)
  · obtain ⟨_, rfl, _⟩ := h
    rfl
  · exact (pss_one (ps_ret (pe_fld (pv 0) rfl)))
theorem sc_Loop_rows : FnScope ["self", "state", "sign"] ["self"] (defScope st_Loop_rows) := ⟨rfl, rfl, rfl, by decide +kernel, rfl, by decide +kernel, by decide +kernel⟩
theorem ok_Loop_rows (T : Tx K mg) : FnOk P w K mg base CX0 1 (He5.wf K (He.ga K "Loop") "property" "rows") (fdOf K (He5.wf K (He.ga K "Loop") "property" "rows")) ["self"] (sp_Loop_rows K) := by
  have sc := sc_Loop_rows
  refine T.f_Loop_rows.ok sc (fun vs H Q E h => ?_) (fun cdv A outer s H vs Q E hr h => ⟨t_Loop_rows K, PSs.nox ?_, pure_Loop_rows T.loopK h⟩)
  · obtain ⟨_, rfl, _⟩ := h
    rfl
  · exact (pss_one (ps_ret (pe_callTy call_tuple_of (by rfl) T.n_tuple (by decide +kernel) (pa_cons (pe_lc2 (own := [("state", 1), ("sign", 2)]) (vs1 := [2]) (g := gName 1) (g1 := gName 2) (by rfl) sc.nd (pi_tup (pe_fld (pv 0) rfl)) (blkOk_by (own := [("state", 1), ("sign", 2)]) (by kernel_rfl)) (by decide) (fun _ _ _ _ _ => pg_name (i := 1) sc.nd rfl (by first | exact Or.inl rfl | exact Or.inr rfl)) (fun _ _ _ _ _ => pts_nil) (fun _ _ _ _ _ => (pi_str (pe_fld (pv 0) rfl))) (fun _ _ _ _ _ => pg_name (i := 2) sc.nd rfl (by first | exact Or.inl rfl | exact Or.inr rfl)) (fun _ _ _ _ _ => pts_nil) (fun _ _ _ _ _ => (pe_op op_catA (pe_tup (pa_cons (pv 1) (pa_cons (pv 2) pa_nil))) (pe_dget hr.u1 (pe_fld (pv 0) rfl) (pe_tup (pa_cons (pv 1) (pa_cons (pv 2) pa_nil))) (fun _ _ => rfl))))) pa_nil))))
theorem sc_Loop_turns : FnScope ["self", "state"] ["self"] (defScope st_Loop_turns) := ⟨rfl, rfl, rfl, by decide +kernel, rfl, by decide +kernel, by decide +kernel⟩
theorem ok_Loop_turns (T : Tx K mg) : FnOk P w K mg base CX0 1 (He5.wf K (He.ga K "Loop") "property" "turns") (fdOf K (He5.wf K (He.ga K "Loop") "property" "turns")) ["self"] (sp_Loop_turns K) := by
  have sc := sc_Loop_turns
  refine T.f_Loop_turns.ok sc (fun vs H Q E h => ?_) (fun cdv A outer s H vs Q E hr h => ⟨t_Loop_turns K, PSs.nox ?_, pure_Loop_turns T.loopK h⟩)
  · obtain ⟨_, rfl, _⟩ := h
    rfl
  · exact (pss_one (ps_ret (pe_callTy call_tuple_of (by rfl) T.n_tuple (by decide +kernel) (pa_cons (pe_lc (own := [("state", 1)]) (g := gName 1) (by rfl) sc.nd (pi_tup (pe_fld (pv 0) rfl)) (blkOk_by (own := [("state", 1)]) (by kernel_rfl)) (fun _ _ _ _ _ => pg_name (i := 1) sc.nd rfl (by first | exact Or.inl rfl | exact Or.inr rfl)) (fun _ _ _ _ _ => pts_nil) (fun _ _ _ _ _ => (pe_op op_catA (pe_tup (pa_cons (pv 1) pa_nil)) (pe_dget hr.u1 (pe_fld (pv 0) rfl) (pv 1) (fun _ _ => rfl))))) pa_nil))))
theorem sc_Loop_row : FnScope ["self"] ["self"] (defScope st_Loop_row) := ⟨rfl, rfl, rfl, by decide +kernel, rfl, by decide +kernel, by decide +kernel⟩
theorem ok_Loop_row (T : Tx K mg) : FnOk P w K mg base CX0 3 (He5.wf K (He.ga K "Loop") "property" "row") (fdOf K (He5.wf K (He.ga K "Loop") "property" "row")) ["self"] (sp_Loop_row K) := by
  have sc := sc_Loop_row
  refine T.f_Loop_row.ok sc (fun vs H Q E h => ?_) (fun cdv A outer s H vs Q E hr h => ⟨t_Loop_row K, PSs.nox ?_, pure_Loop_row T.loopK h⟩)
  · obtain ⟨_, rfl, _⟩ := h
    rfl
  · exact (pss_one (ps_ret (pe_tup (pa_cons (pe_fld (pv 0) rfl) (pa_cons (pe_fld (pv 0) rfl) (pa_cons (pe_prop (pv 0) T.c_Loop T.p_Loop_rows (ok_Loop_rows T) (hr.mono (by decide)) T.b_Loop_rows .nil pass0 rfl) (pa_cons (pe_prop (pv 0) T.c_Loop T.p_Loop_turns (ok_Loop_turns T) (hr.mono (by decide)) T.b_Loop_turns .nil pass0 rfl) (pa_cons (pe_fld (pv 0) rfl) pa_nil))))))))
theorem sc_Loop_made : FnScope ["cls", "row", "loop"] ["cls", "row"] (defScope st_Loop_made) := ⟨rfl, rfl, rfl, by decide +kernel, rfl, by decide +kernel, by decide +kernel⟩
theorem ok_Loop_made (T : Tx K mg) : FnOk P w K mg base CX0 6 (He5.wf K (He.ga K "Loop") "classmethod" "made") (fdOf K (He5.wf K (He.ga K "Loop") "classmethod" "made")) ["cls", "row"] (sp_Loop_made K) := by
  have sc := sc_Loop_made
  obtain ⟨gqLoop_init_5_yes, kbqLoop_init_5_yes⟩ := T.qLoop_init_5_yes
  refine T.f_Loop_made.ok sc (fun vs H Q E h => ?_) (fun cdv A outer s H vs Q E hr h => ⟨t_Loop_made K, PSs.nox ?_, pure_Loop_made T.loopK h⟩)
  · obtain ⟨_, rfl, _⟩ := h
    rfl
  · exact (pss_cons (ps_if (pt_not (pt_val (pe_call (ok_is_row T) (hr.mono (by decide)) (by rfl) T.g_is_row T.k_is_row T.b_is_row .nil pass0 (pa_cons (pv 1) (pa_cons pe_int pa_nil))))) (pss_one ps_never) pss_nil)
  (pss_cons (ps_try_thru0 (pss_one (ps_set (i := 2) sc.nd rfl (by first | exact Or.inl rfl | exact Or.inr rfl) (pe_makeLK (ks := ["yes"]) (i := 0) T.mk_Loop (ok_Loop_init T) (hr.mono (by decide)) rfl (by first | exact Or.inl rfl | exact Or.inr (Or.inl rfl)) kbqLoop_init_5_yes pass0 (pa_cons (pe_ix ix_tup (pv 1) pe_int (fun _ _ => rfl)) (pa_cons (pe_ix ix_tup (pv 1) pe_int (fun _ _ => rfl)) (pa_cons (pe_ix ix_tup (pv 1) pe_int (fun _ _ => rfl)) (pa_cons (pe_ix ix_tup (pv 1) pe_int (fun _ _ => rfl)) pa_nil)))) (pk_cons (pe_ix ix_tup (pv 1) pe_int (fun _ _ => rfl)) pk_nil)))))
  (pss_cons (ps_if (pt_cmpR (op_neD hr.units) (pe_prop (pv 2) T.c_Loop T.p_Loop_row (ok_Loop_row T) (hr.mono (by decide)) T.b_Loop_row .nil pass0 rfl) (pv 1) (nomark _)) (pss_one ps_never) pss_nil)
  (pss_one (ps_ret (pv 2))))))
theorem sc_Loop_eq : FnScope ["self", "other"] ["self", "other"] (defScope st_Loop_eq) := ⟨rfl, rfl, rfl, by decide +kernel, rfl, by decide +kernel, by decide +kernel⟩
theorem ok_Loop_eq (T : Tx K mg) : FnOk P w K mg base CX0 5 (He.ma K (He.ga K "Loop") "__eq__") (fdOf K (He.ma K (He.ga K "Loop") "__eq__")) ["self", "other"] (sp_Loop_eq K) := by
  have sc := sc_Loop_eq
  refine T.f_Loop_eq.ok sc (fun vs H Q E h => ?_) (fun cdv A outer s H vs Q E hr h => ⟨t_Loop_eq K, PSs.nox ?_, pure_Loop_eq T.loopI h⟩)
  · obtain ⟨_, _, rfl, _⟩ := h
    rfl
  · exact (pss_one (ps_ret (pe_and (pe_callB call_isi (by rfl) T.n_isinstance (by decide +kernel) (pa_cons (pv 1) (pa_cons (pe_glob (by rfl) T.g_Loop (show RelV (.ref (He.ga K "Loop")) (.ref (He.ga K "Loop")) from rfl)) pa_nil))) (pe_one (pe_cmpR (op_eqD hr.units) (pe_prop (pv 0) T.c_Loop T.p_Loop_row (ok_Loop_row T) (hr.mono (by decide)) T.b_Loop_row .nil pass0 rfl) (pe_prop (pv 1) T.c_Loop T.p_Loop_row (ok_Loop_row T) (hr.mono (by decide)) T.b_Loop_row .nil pass0 rfl) (nomark _))))))
theorem sc_law_cell : FnScope ["_law_script", "_law_k", "_law_mixed", "_law_cell_here"] ["_law_script", "_law_k"] (defScope st_law_cell) := ⟨rfl, rfl, rfl, by decide +kernel, rfl, by decide +kernel, by decide +kernel⟩
theorem ok_law_cell (T : Tx K mg) : FnOk P w K mg base CX0 1 (He.ga K "_law_cell") (fdOf K (He.ga K "_law_cell")) ["_law_script", "_law_k"] (sp_law_cell K) := by
  have sc := sc_law_cell
  refine T.f_law_cell.ok sc (fun vs H Q E h => ?_) (fun cdv A outer s H vs Q E hr h => ⟨t_law_cell K, PSs.nox ?_, pure_law_cell h⟩)
  · obtain ⟨_, _, _, rfl, _⟩ := h
    rfl
  · exact (pss_cons (ps_if (pt_cmpR op_lt (pv 1) (pe_callB call_len (by rfl) T.n_len (by decide +kernel) (pa_cons (pv 0) pa_nil)) (nomark _)) (pss_one (ps_ret (pe_ix ix_list (pv 0) (pv 1) (fun _ _ => rfl)))) pss_nil)
  (pss_cons (ps_set (i := 2) sc.nd rfl (by first | exact Or.inl rfl | exact Or.inr rfl) (pe_op op_add pe_int (pe_op op_mul (pe_op op_mul pe_int (pv 1)) (pv 1))))
  (pss_cons (ps_for PassesOwn.never rfl (pi_list (pe_slice sl_list (pv 0) po_none (po_some pe_int))) (pg_name (i := 3) sc.nd rfl (by first | exact Or.inl rfl | exact Or.inr rfl)) (pss_one (ps_set (i := 2) sc.nd rfl (by first | exact Or.inl rfl | exact Or.inr rfl) (pe_op op_mod (pe_callTy call_int1 (by rfl) T.n_int (by decide +kernel) (pa_cons (pe_op op_add (pe_op op_mul (pv 2) pe_int) (pv 3)) pa_nil)) pe_int))))
  (pss_one (ps_ret (pv 2))))))
theorem sc_law_pool : FnScope ["_law_cell_here", "_law_digits"] ["_law_cell_here"] (defScope st_law_pool) := ⟨rfl, rfl, rfl, by decide +kernel, rfl, by decide +kernel, by decide +kernel⟩
theorem ok_law_pool (T : Tx K mg) : FnOk P w K mg base CX0 1 (He.ga K "_law_pool") (fdOf K (He.ga K "_law_pool")) ["_law_cell_here"] (sp_law_pool K) := by
  have sc := sc_law_pool
  refine T.f_law_pool.ok sc (fun vs H Q E h => ?_) (fun cdv A outer s H vs Q E hr h => ⟨t_law_pool K, PSs.nox ?_, pure_law_pool h⟩)
  · obtain ⟨_, rfl, _⟩ := h
    rfl
  · exact (pss_cons (ps_set (i := 1) sc.nd rfl (by first | exact Or.inl rfl | exact Or.inr rfl) (pe_ifExp (PW.pt (pw_or (pt_cmpR op_lt (pv 0) pe_int (nomark _)) (pw_or1 (pt_cmpR op_ge (pv 0) (pe_op op_pow pe_int pe_int) (nomark _))))) (pe_callB call_abs (by rfl) T.n_abs (by decide +kernel) (pa_cons (pv 0) pa_nil)) pe_int))
  (pss_one (ps_ret (pe_lst (pa_cons (pe_op op_mod (pe_callTy call_int1 (by rfl) T.n_int (by decide +kernel) (pa_cons (pv 0) pa_nil)) pe_int) (pa_cons (pv 1) (pa_cons pe_int pa_nil)))))))
theorem sc_law_draw : FnScope ["_law_pool_here", "_law_many", "_law_mixed", "_law_digit"] ["_law_pool_here", "_law_many"] (defScope st_law_draw) := ⟨rfl, rfl, rfl, by decide +kernel, rfl, by decide +kernel, by decide +kernel⟩
theorem ok_law_draw (T : Tx K mg) : FnOk P w K mg base CX0 1 (He.ga K "_law_draw") (fdOf K (He.ga K "_law_draw")) ["_law_pool_here", "_law_many"] (sp_law_draw K) := by
  have sc := sc_law_draw
  refine T.f_law_draw.ok sc (fun vs H Q E h => ?_) (fun cdv A outer s H vs Q E hr h => ⟨t_law_draw K, PSs.nox ?_, pure_law_draw h⟩)
  · obtain ⟨_, _, rfl, _⟩ := h
    rfl
  · exact (pss_cons (ps_asg (pe_op op_add (pe_ix ix_list (pv 0) pe_int (fun _ _ => rfl)) pe_int) (pg_sub (pv 0) pe_int set_list))
  (pss_cons (ps_set (i := 2) sc.nd rfl (by first | exact Or.inl rfl | exact Or.inr rfl) (pe_op op_mod (pe_callTy call_int1 (by rfl) T.n_int (by decide +kernel) (pa_cons (pe_op op_add (pe_op op_add (pe_op op_mul (pe_ix ix_list (pv 0) pe_int (fun _ _ => rfl)) pe_int) (pe_op op_mul (pe_ix ix_list (pv 0) pe_int (fun _ _ => rfl)) pe_int)) pe_int) pa_nil)) pe_int))
  (pss_cons (ps_asg (pe_op op_mod (pe_callTy call_int1 (by rfl) T.n_int (by decide +kernel) (pa_cons (pe_op op_mul (pv 2) (pe_op op_add (pe_op op_fdiv (pv 2) pe_int) pe_int)) pa_nil)) pe_int) (pg_sub (pv 0) pe_int set_list))
  (pss_cons (ps_if (pt_cmpR op_gt (pe_ix ix_list (pv 0) pe_int (fun _ _ => rfl)) pe_int (nomark _)) (pss_cons (ps_asg (pe_callB call_divmodW (by rfl) T.n_divmod (by decide +kernel) (pa_cons (pe_ix ix_list (pv 0) pe_int (fun _ _ => rfl)) (pa_cons (pv 1) pa_nil))) (pg_tup rfl (pgs_cons (pg_sub (pv 0) pe_int set_list) (pgs_cons (pg_name (i := 3) sc.nd rfl (by first | exact Or.inl rfl | exact Or.inr rfl)) pgs_nil))))
  (pss_one (ps_ret (pv 3)))) pss_nil)
  (pss_one (ps_ret (pe_op op_mod (pe_callTy call_int1 (by rfl) T.n_int (by decide +kernel) (pa_cons (pe_op op_fdiv (pe_ix ix_list (pv 0) pe_int (fun _ _ => rfl)) pe_int) pa_nil)) (pv 1))))))))
theorem sc_law_shufU : FnScope ["_law_pool_here", "_law_things", "_law_rest", "_law_found", "_law_turn"] ["_law_pool_here", "_law_things"] (defScope st_law_shufU) := ⟨rfl, rfl, rfl, by decide +kernel, rfl, by decide +kernel, by decide +kernel⟩
theorem ok_law_shufU (T : Tx K mg) : FnOk P w K mg base CX0 2 (He.ga K "_law_shuffled") (fdOf K (He.ga K "_law_shuffled")) ["_law_pool_here", "_law_things"] (sp_law_shufU K) := by
  have sc := sc_law_shufU
  refine T.f_law_shufU.ok sc (fun vs H Q E h => ?_) (fun cdv A outer s H vs Q E hr h => ⟨t_law_shufU K, PSs.nox ?_, pure_law_shufU h⟩)
  · obtain ⟨_, _, rfl, _⟩ := h
    rfl
  · exact (pss_cons (ps_par (by rfl) sc.nd rfl rfl (by decide) rfl rfl (pa_cons (pe_callTy (call_listU rfl) (by rfl) T.n_list (by decide +kernel) (pa_cons (pv 1) pa_nil)) (pa_cons (pe_lst pa_nil) pa_nil)) (by rfl))
  (pss_cons (ps_for PassesOwn.never rfl (pi_range1 (by rfl) T.n_range (pa_cons (pe_callB call_len (by rfl) T.n_len (by decide +kernel) (pa_cons (pv 1) pa_nil)) pa_nil)) (pg_name (i := 4) sc.nd rfl (by first | exact Or.inl rfl | exact Or.inr rfl)) (pss_one (ps_expr (pe_bm PySem.F.plainAttrs_list PySem.F.slot_list_append PySem.F.type_list_append mt_append (pv 3) (pa_cons (pe_bm PySem.F.plainAttrs_list PySem.F.slot_list_pop PySem.F.type_list_pop mt_popAt (pv 2) (pa_cons (pe_call (ok_law_draw T) (hr.mono (by decide)) (by rfl) T.g_law_draw T.k_law_draw T.b_law_draw .nil pass0 (pa_cons (pv 0) (pa_cons (pe_callB call_len (by rfl) T.n_len (by decide +kernel) (pa_cons (pv 2) pa_nil)) pa_nil))) pa_nil)) pa_nil)))))
  (pss_one (ps_ret (pv 3)))))
theorem sc_law_face : FnScope ["_law_thing", "_law_part", "_law_key"] ["_law_thing"] (defScope st_law_face) := ⟨rfl, rfl, rfl, by decide +kernel, rfl, by decide +kernel, by decide +kernel⟩
theorem ok_law_face (T : Tx K mg) : ∀ n : Nat, FnOk P w K mg base CX0 (n + 1) (He.ga K "_law_face") (fdOf K (He.ga K "_law_face")) ["_law_thing"] (sp_law_face K n)
  | 0 => T.f_law_face.ok sc_law_face (fun vs H Q E h => False.elim h) (fun cdv A outer s H vs Q E hr h => False.elim h)
  | n + 1 => by
    have sc := sc_law_face
    have ih := ok_law_face T n
    refine T.f_law_face.ok sc (fun vs H Q E h => ?_) (fun cdv A outer s H vs Q E hr h => ⟨t_law_face K n, PSs.nox ?_, pure_law_face h⟩)
    · obtain ⟨_, rfl, _⟩ := h
      rfl
    · exact (pss_cons (ps_if (pt_val (pe_callB call_isi (by rfl) T.n_isinstance (by decide +kernel) (pa_cons (pv 0) (pa_cons (pe_bltn (by rfl) T.n_tuple (by decide +kernel) rfl) pa_nil)))) (pss_one (ps_ret (pe_op op_cat (pe_lst (pa_cons pe_str pa_nil)) (pe_lc (own := [("_law_part", 1)]) (g := gName 1) (by rfl) sc.nd (pi_tup (pv 0)) (blkOk_by (own := [("_law_part", 1)]) (by kernel_rfl)) (fun _ _ _ _ _ => pg_name (i := 1) sc.nd rfl (by first | exact Or.inl rfl | exact Or.inr rfl)) (fun _ _ _ _ _ => pts_nil) (fun _ _ _ _ _ => (pe_call ih (hr.mono (by omega)) (by rfl) T.g_law_face T.k_law_face T.b_law_face .nil pass0 (pa_cons (pv 1) pa_nil))))))) pss_nil)
  (pss_cons (ps_if (pt_val (pe_callB call_isi (by rfl) T.n_isinstance (by decide +kernel) (pa_cons (pv 0) (pa_cons (pe_bltn (by rfl) T.n_list (by decide +kernel) rfl) pa_nil)))) (pss_one (ps_ret (pe_op op_cat (pe_lst (pa_cons pe_str pa_nil)) (pe_lc (own := [("_law_part", 1)]) (g := gName 1) (by rfl) sc.nd (pi_list (pv 0)) (blkOk_by (own := [("_law_part", 1)]) (by kernel_rfl)) (fun _ _ _ _ _ => pg_name (i := 1) sc.nd rfl (by first | exact Or.inl rfl | exact Or.inr rfl)) (fun _ _ _ _ _ => pts_nil) (fun _ _ _ _ _ => (pe_call ih (hr.mono (by omega)) (by rfl) T.g_law_face T.k_law_face T.b_law_face .nil pass0 (pa_cons (pv 1) pa_nil))))))) pss_nil)
  (pss_cons (ps_if (pt_val (pe_callB call_isi (by rfl) T.n_isinstance (by decide +kernel) (pa_cons (pv 0) (pa_cons (pe_bltn (by rfl) T.n_dict (by decide +kernel) rfl) pa_nil)))) (pss_one (ps_ret (pe_op op_cat (pe_lst (pa_cons pe_str pa_nil)) (pe_lc (own := [("_law_key", 2)]) (g := gName 2) (by rfl) sc.nd (pi_keys (pv 0)) (blkOk_by (own := [("_law_key", 2)]) (by kernel_rfl)) (fun _ _ _ _ _ => pg_name (i := 2) sc.nd rfl (by first | exact Or.inl rfl | exact Or.inr rfl)) (fun _ _ _ _ _ => pts_nil) (fun _ _ _ _ _ => (pe_lst (pa_cons (pe_call ih (hr.mono (by omega)) (by rfl) T.g_law_face T.k_law_face T.b_law_face .nil pass0 (pa_cons (pv 2) pa_nil)) (pa_cons (pe_call ih (hr.mono (by omega)) (by rfl) T.g_law_face T.k_law_face T.b_law_face .nil pass0 (pa_cons (pe_dget hr.u1 (pv 0) (pv 2) (fun _ _ => rfl)) pa_nil)) pa_nil)))))))) pss_nil)
  (pss_one (ps_ret (pe_lst (pa_cons (pe_ifExp (pt_val (pe_callB call_isi (by rfl) T.n_isinstance (by decide +kernel) (pa_cons (pv 0) (pa_cons (pe_bltn (by rfl) T.n_bool (by decide +kernel) rfl) pa_nil)))) pe_str pe_str) (pa_cons (pv 0) pa_nil))))))))
theorem sc_law_signs : FnScope ["_law_pool_here", "_law_most", "_law_found", "_law_turn", "_law_rest", "_law_mark"] ["_law_pool_here", "_law_most"] (defScope st_law_signs) := ⟨rfl, rfl, rfl, by decide +kernel, rfl, by decide +kernel, by decide +kernel⟩
theorem ok_law_signs (T : Tx K mg) : FnOk P w K mg base CX0 2 (He.ga K "_law_signs") (fdOf K (He.ga K "_law_signs")) ["_law_pool_here", "_law_most"] (sp_law_signs K) := by
  have sc := sc_law_signs
  refine T.f_law_signs.ok sc (fun vs H Q E h => ?_) (fun cdv A outer s H vs Q E hr h => ⟨t_law_signs K, PSs.nox ?_, pure_law_signs h⟩)
  · obtain ⟨_, _, rfl, _⟩ := h
    rfl
  · exact (pss_cons (ps_set (i := 2) sc.nd rfl (by first | exact Or.inl rfl | exact Or.inr rfl) pe_str)
  (pss_cons (ps_for PassesOwn.never rfl (pi_range1 (by rfl) T.n_range (pa_cons (pe_op op_add pe_int (pe_call (ok_law_draw T) (hr.mono (by decide)) (by rfl) T.g_law_draw T.k_law_draw T.b_law_draw .nil pass0 (pa_cons (pv 0) (pa_cons (pv 1) pa_nil)))) pa_nil)) (pg_name (i := 3) sc.nd rfl (by first | exact Or.inl rfl | exact Or.inr rfl)) (pss_cons (ps_setLc (i := 4) (own := [("_law_mark", 5)]) (g := gName 5) (by rfl) sc.nd rfl rfl (sw_true rfl rfl rfl (by decide +kernel)) (pi_str pe_str) (blkOk_by (own := [("_law_mark", 5)]) (by kernel_rfl)) (fun _ _ _ _ _ => pg_name (i := 5) sc.nd rfl (by first | exact Or.inl rfl | exact Or.inr rfl)) (fun _ _ _ _ _ => (pts_one (pt_cmpR op_notIn_sign (pv 5) (pv 2) (by rfl)))) (fun _ _ _ _ _ => (pv 5)))
  (pss_one (ps_set (i := 2) sc.nd rfl (by first | exact Or.inl rfl | exact Or.inr rfl) (pe_op op_addS (pv 2) (pe_ix ix_list (pv 4) (pe_call (ok_law_draw T) (hr.mono (by decide)) (by rfl) T.g_law_draw T.k_law_draw T.b_law_draw .nil pass0 (pa_cons (pv 0) (pa_cons (pe_callB call_len (by rfl) T.n_len (by decide +kernel) (pa_cons (pv 4) pa_nil)) pa_nil))) (fun _ _ => rfl)))))))
  (pss_one (ps_ret (pv 2)))))
theorem sc_law_name : FnScope ["_law_pool_here", "_law_found", "_law_marks", "_law_near", "_law_turn", "_law_old", "_law_at", "_law_spares", "_law_mate", "_law_mark"] ["_law_pool_here", "_law_found"] (defScope st_law_name) := ⟨rfl, rfl, rfl, by decide +kernel, rfl, by decide +kernel, by decide +kernel⟩
theorem ok_law_name (T : Tx K mg) : FnOk P w K mg base CX0 2 (He.ga K "_law_name") (fdOf K (He.ga K "_law_name")) ["_law_pool_here", "_law_found"] (sp_law_name K) := by
  have sc := sc_law_name
  refine T.f_law_name.ok sc (fun vs H Q E h => ?_) (fun cdv A outer s H vs Q E hr h => ⟨t_law_name K, PSs.nox ?_, pure_law_name h⟩)
  · obtain ⟨_, _, rfl, _⟩ := h
    rfl
  · exact (pss_cons (ps_set (i := 2) sc.nd rfl (by first | exact Or.inl rfl | exact Or.inr rfl) pe_str)
  (pss_cons (ps_set (i := 3) sc.nd rfl (by first | exact Or.inl rfl | exact Or.inr rfl) (pe_ix ix_str (pv 2) (pe_call (ok_law_draw T) (hr.mono (by decide)) (by rfl) T.g_law_draw T.k_law_draw T.b_law_draw .nil pass0 (pa_cons (pv 0) (pa_cons pe_int pa_nil))) (fun _ _ => rfl)))
  (pss_cons (ps_set (i := 3) sc.nd rfl (by first | exact Or.inl rfl | exact Or.inr rfl) (pe_op op_addS (pv 3) (pe_join pe_str (pe_lc (own := [("_law_turn", 4)]) (g := gName 4) (by rfl) sc.nd (pi_range1 (by rfl) T.n_range (pa_cons (pe_call (ok_law_draw T) (hr.mono (by decide)) (by rfl) T.g_law_draw T.k_law_draw T.b_law_draw .nil pass0 (pa_cons (pv 0) (pa_cons pe_int pa_nil))) pa_nil)) (blkOk_by (own := [("_law_turn", 4)]) (by kernel_rfl)) (fun _ _ _ _ _ => pg_name (i := 4) sc.nd rfl (by first | exact Or.inl rfl | exact Or.inr rfl)) (fun _ _ _ _ _ => pts_nil) (fun _ _ _ _ _ => (pe_ix ix_str (pv 2) (pe_call (ok_law_draw T) (hr.mono (by decide)) (by rfl) T.g_law_draw T.k_law_draw T.b_law_draw .nil pass0 (pa_cons (pv 0) (pa_cons pe_int pa_nil))) (fun _ _ => rfl)))))))
  (pss_cons (ps_if (PW.pt (pw_and (pt_cmpR (op_neD hr.units) (pv 1) (pe_lst pa_nil) (nomark _)) (pw_and1 (pt_cmpR op_gt (pe_call (ok_law_draw T) (hr.mono (by decide)) (by rfl) T.g_law_draw T.k_law_draw T.b_law_draw .nil pass0 (pa_cons (pv 0) (pa_cons pe_int pa_nil))) pe_int (nomark _))))) (pss_cons (ps_set (i := 5) sc.nd rfl (by first | exact Or.inl rfl | exact Or.inr rfl) (pe_ix ix_list (pv 1) (pe_call (ok_law_draw T) (hr.mono (by decide)) (by rfl) T.g_law_draw T.k_law_draw T.b_law_draw .nil pass0 (pa_cons (pv 0) (pa_cons (pe_callB call_len (by rfl) T.n_len (by decide +kernel) (pa_cons (pv 1) pa_nil)) pa_nil))) (fun _ _ => rfl)))
  (pss_cons (ps_set (i := 6) sc.nd rfl (by first | exact Or.inl rfl | exact Or.inr rfl) (pe_op op_add pe_int (pe_call (ok_law_draw T) (hr.mono (by decide)) (by rfl) T.g_law_draw T.k_law_draw T.b_law_draw .nil pass0 (pa_cons (pv 0) (pa_cons (pe_callB call_len (by rfl) T.n_len (by decide +kernel) (pa_cons (pv 5) pa_nil)) pa_nil)))))
  (pss_one (ps_set (i := 3) sc.nd rfl (by first | exact Or.inl rfl | exact Or.inr rfl) (pe_slice sl_str (pe_op op_addS (pe_op op_addS (pe_slice sl_str (pv 5) po_none (po_some (pv 6))) (pe_ix ix_str (pv 2) (pe_call (ok_law_draw T) (hr.mono (by decide)) (by rfl) T.g_law_draw T.k_law_draw T.b_law_draw .nil pass0 (pa_cons (pv 0) (pa_cons pe_int pa_nil))) (fun _ _ => rfl))) (pe_slice sl_str (pv 5) (po_some (pe_op op_add (pv 6) (pe_call (ok_law_draw T) (hr.mono (by decide)) (by rfl) T.g_law_draw T.k_law_draw T.b_law_draw .nil pass0 (pa_cons (pv 0) (pa_cons pe_int pa_nil))))) po_none)) po_none (po_some pe_int)))))) pss_nil)
  (pss_cons (ps_setLc (i := 7) (own := [("_law_mate", 8)]) (g := gName 8) (by rfl) sc.nd rfl rfl (sw_true rfl rfl rfl (by decide +kernel)) (pi_list (pe_op op_cat (pe_lst (pa_cons (pv 3) pa_nil)) (pe_lc (own := [("_law_mark", 9)]) (g := gName 9) (by rfl) sc.nd (pi_str (pe_slice sl_str (pv 2) po_none (po_some pe_int))) (blkOk_by (own := [("_law_mark", 9)]) (by kernel_rfl)) (fun _ _ _ _ _ => pg_name (i := 9) sc.nd rfl (by first | exact Or.inl rfl | exact Or.inr rfl)) (fun _ _ _ _ _ => pts_nil) (fun _ _ _ _ _ => (pe_op op_addS pe_str (pv 9)))))) (blkOk_by (own := [("_law_mate", 8)]) (by kernel_rfl)) (fun _ _ _ _ _ => pg_name (i := 8) sc.nd rfl (by first | exact Or.inl rfl | exact Or.inr rfl)) (fun _ _ _ _ _ => (pts_one (pt_cmpR op_notIn_seq (pv 8) (pv 1) (by rfl)))) (fun _ _ _ _ _ => (pv 8)))
  (pss_one (ps_ret (pe_ix ix_list (pv 7) pe_int (fun _ _ => rfl)))))))))
theorem sc_law_names : FnScope ["_law_pool_here", "_law_many", "_law_found", "_law_turn"] ["_law_pool_here", "_law_many"] (defScope st_law_names) := ⟨rfl, rfl, rfl, by decide +kernel, rfl, by decide +kernel, by decide +kernel⟩
theorem ok_law_names (T : Tx K mg) : FnOk P w K mg base CX0 3 (He.ga K "_law_names") (fdOf K (He.ga K "_law_names")) ["_law_pool_here", "_law_many"] (sp_law_names K) := by
  have sc := sc_law_names
  refine T.f_law_names.ok sc (fun vs H Q E h => ?_) (fun cdv A outer s H vs Q E hr h => ⟨t_law_names K, PSs.nox ?_, pure_law_names h⟩)
  · obtain ⟨_, _, rfl, _⟩ := h
    rfl
  · exact (pss_cons (ps_set (i := 2) sc.nd rfl (by first | exact Or.inl rfl | exact Or.inr rfl) (pe_lst pa_nil))
  (pss_cons (ps_for PassesOwn.never rfl (pi_range1 (by rfl) T.n_range (pa_cons (pv 1) pa_nil)) (pg_name (i := 3) sc.nd rfl (by first | exact Or.inl rfl | exact Or.inr rfl)) (pss_one (ps_expr (pe_bm PySem.F.plainAttrs_list PySem.F.slot_list_append PySem.F.type_list_append mt_append (pv 2) (pa_cons (pe_call (ok_law_name T) (hr.mono (by decide)) (by rfl) T.g_law_name T.k_law_name T.b_law_name .nil pass0 (pa_cons (pv 0) (pa_cons (pv 2) pa_nil))) pa_nil)))))
  (pss_one (ps_ret (pv 2)))))
theorem sc_law_amount : FnScope ["_law_pool_here", "_law_great", "_law_way"] ["_law_pool_here", "_law_great"] (defScope st_law_amount) := ⟨rfl, rfl, rfl, by decide +kernel, rfl, by decide +kernel, by decide +kernel⟩
theorem ok_law_amount (T : Tx K mg) : FnOk P w K mg base CX0 2 (He.ga K "_law_amount") (fdOf K (He.ga K "_law_amount")) ["_law_pool_here", "_law_great"] (sp_law_amount K) := by
  have sc := sc_law_amount
  refine T.f_law_amount.ok sc (fun vs H Q E h => ?_) (fun cdv A outer s H vs Q E hr h => ⟨t_law_amount K, PSs.nox ?_, pure_law_amount h⟩)
  · obtain ⟨_, _, rfl, _⟩ := h
    rfl
  · exact (pss_cons (ps_set (i := 2) sc.nd rfl (by first | exact Or.inl rfl | exact Or.inr rfl) (pe_call (ok_law_draw T) (hr.mono (by decide)) (by rfl) T.g_law_draw T.k_law_draw T.b_law_draw .nil pass0 (pa_cons (pv 0) (pa_cons pe_int pa_nil))))
  (pss_cons (ps_if (pt_cmpR op_lt (pv 2) pe_int (nomark _)) (pss_one (ps_ret (pe_op op_sub (pe_call (ok_law_draw T) (hr.mono (by decide)) (by rfl) T.g_law_draw T.k_law_draw T.b_law_draw .nil pass0 (pa_cons (pv 0) (pa_cons pe_int pa_nil))) pe_int))) pss_nil)
  (pss_cons (ps_if (PW.pt (pw_or (pt_cmpR op_lt (pv 2) pe_int (nomark _)) (pw_or1 (pt_not (pt_val (pv 1)))))) (pss_one (ps_ret (pe_op op_sub (pe_call (ok_law_draw T) (hr.mono (by decide)) (by rfl) T.g_law_draw T.k_law_draw T.b_law_draw .nil pass0 (pa_cons (pv 0) (pa_cons pe_int pa_nil))) pe_int))) pss_nil)
  (pss_one (ps_ret (pe_ix ix_list (pe_lst (pa_cons (pe_op op_pow pe_int pe_int) (pa_cons (pe_op op_sub (pe_un un_neg (pe_op op_pow pe_int pe_int)) pe_int) (pa_cons (pe_op op_add (pe_op op_pow pe_int pe_int) pe_int) (pa_cons (pe_un un_neg (pe_op op_pow pe_int pe_int)) pa_nil))))) (pe_call (ok_law_draw T) (hr.mono (by decide)) (by rfl) T.g_law_draw T.k_law_draw T.b_law_draw .nil pass0 (pa_cons (pv 0) (pa_cons pe_int pa_nil))) (fun _ _ => rfl)))))))
theorem sc_law_model : FnScope ["_law_pool_here", "_law_abc", "_law_most", "_law_great", "_law_posts", "_law_steps", "_law_ends", "_law_post", "_law_mark", "_law_oks"] ["_law_pool_here", "_law_abc", "_law_most", "_law_great"] (defScope st_law_model) := ⟨rfl, rfl, rfl, by decide +kernel, rfl, by decide +kernel, by decide +kernel⟩
theorem ok_law_model (T : Tx K mg) : FnOk P w K mg base CX0 4 (He.ga K "_law_model") (fdOf K (He.ga K "_law_model")) ["_law_pool_here", "_law_abc", "_law_most", "_law_great"] (sp_law_model K) := by
  have sc := sc_law_model
  refine T.f_law_model.ok sc (fun vs H Q E h => ?_) (fun cdv A outer s H vs Q E hr h => ⟨t_law_model K, PSs.nox ?_, pure_law_model h⟩)
  · obtain ⟨_, _, _, _, rfl, _⟩ := h
    rfl
  · exact (pss_cons (ps_set (i := 4) sc.nd rfl (by first | exact Or.inl rfl | exact Or.inr rfl) (pe_call (ok_law_names T) (hr.mono (by decide)) (by rfl) T.g_law_names T.k_law_names T.b_law_names .nil pass0 (pa_cons (pv 0) (pa_cons (pe_op op_add pe_int (pe_call (ok_law_draw T) (hr.mono (by decide)) (by rfl) T.g_law_draw T.k_law_draw T.b_law_draw .nil pass0 (pa_cons (pv 0) (pa_cons (pv 2) pa_nil)))) pa_nil))))
  (pss_cons (ps_par (by rfl) sc.nd rfl rfl (by decide) rfl rfl (pa_cons pe_dnewT (pa_cons pe_dnewK pa_nil)) (by rfl))
  (pss_cons (ps_for PassesOwn.never rfl (pi_list (pv 4)) (pg_name (i := 7) sc.nd rfl (by first | exact Or.inl rfl | exact Or.inr rfl)) (pss_cons (ps_for PassesOwn.never rfl (pi_str (pv 1)) (pg_name (i := 8) sc.nd rfl (by first | exact Or.inl rfl | exact Or.inr rfl)) (pss_one (ps_dput hr.u1 (pv 5) (pe_tup (pa_cons (pv 7) (pa_cons (pv 8) pa_nil))) (pe_tup (pa_cons (pe_ix ix_list (pv 4) (pe_call (ok_law_draw T) (hr.mono (by decide)) (by rfl) T.g_law_draw T.k_law_draw T.b_law_draw .nil pass0 (pa_cons (pv 0) (pa_cons (pe_callB call_len (by rfl) T.n_len (by decide +kernel) (pa_cons (pv 4) pa_nil)) pa_nil))) (fun _ _ => rfl)) (pa_cons (pe_call (ok_law_amount T) (hr.mono (by decide)) (by rfl) T.g_law_amount T.k_law_amount T.b_law_amount .nil pass0 (pa_cons (pv 0) (pa_cons (pv 3) pa_nil))) pa_nil))) rfl)))
  (pss_cons (ps_dput hr.u1 (pv 6) (pv 7) (pe_tup (pa_cons (pv 7) (pa_cons pe_int pa_nil))) rfl)
  (pss_one (ps_if (pt_cmpR op_gt (pe_call (ok_law_draw T) (hr.mono (by decide)) (by rfl) T.g_law_draw T.k_law_draw T.b_law_draw .nil pass0 (pa_cons (pv 0) (pa_cons pe_int pa_nil))) pe_int (nomark _)) (pss_one (ps_dput hr.u1 (pv 6) (pv 7) (pe_tup (pa_cons (pe_ix ix_list (pv 4) (pe_call (ok_law_draw T) (hr.mono (by decide)) (by rfl) T.g_law_draw T.k_law_draw T.b_law_draw .nil pass0 (pa_cons (pv 0) (pa_cons (pe_callB call_len (by rfl) T.n_len (by decide +kernel) (pa_cons (pv 4) pa_nil)) pa_nil))) (fun _ _ => rfl)) (pa_cons (pe_call (ok_law_amount T) (hr.mono (by decide)) (by rfl) T.g_law_amount T.k_law_amount T.b_law_amount .nil pass0 (pa_cons (pv 0) (pa_cons (pv 3) pa_nil))) pa_nil))) rfl)) pss_nil)))))
  (pss_cons (ps_setLc (i := 9) (own := [("_law_post", 7)]) (g := gName 7) (by rfl) sc.nd rfl rfl (sw_true rfl rfl rfl (by decide +kernel)) (pi_list (pv 4)) (blkOk_by (own := [("_law_post", 7)]) (by kernel_rfl)) (fun _ _ _ _ _ => pg_name (i := 7) sc.nd rfl (by first | exact Or.inl rfl | exact Or.inr rfl)) (fun _ _ _ _ _ => (pts_one (pt_cmpR op_eq (pe_call (ok_law_draw T) (hr.mono (by decide)) (by rfl) T.g_law_draw T.k_law_draw T.b_law_draw .nil pass0 (pa_cons (pv 0) (pa_cons pe_int pa_nil))) pe_int (nomark _)))) (fun _ _ _ _ _ => (pv 7)))
  (pss_one (ps_ret (pe_lst (pa_cons (pv 1) (pa_cons (pv 4) (pa_cons (pv 5) (pa_cons (pv 6) (pa_cons (pv 9) pa_nil))))))))))))
theorem sc_law_lineF : FnScope ["_law_model_here", "_law_abc", "_law_posts", "_law_steps", "_law_ends", "_law_oks", "_law_lines", "_law_post", "_law_mark", "_law_closings"] ["_law_model_here"] (defScope st_law_lineF) := ⟨rfl, rfl, rfl, by decide +kernel, rfl, by decide +kernel, by decide +kernel⟩
theorem ok_law_lineF (T : Tx K mg) : FnOk P w K mg base CX0 1 (He.ga K "_law_line") (fdOf K (He.ga K "_law_line")) ["_law_model_here"] (sp_law_lineF K) := by
  have sc := sc_law_lineF
  refine T.f_law_lineF.ok sc (fun vs H Q E h => ?_) (fun cdv A outer s H vs Q E hr h => ⟨t_law_lineF K, PSs.nox ?_, pure_law_lineF h⟩)
  · obtain ⟨_, rfl, _⟩ := h
    rfl
  · exact (pss_cons (ps_asg (pv 0) (pg_lst rfl (pgs_cons (pg_name (i := 1) sc.nd rfl (by first | exact Or.inl rfl | exact Or.inr rfl)) (pgs_cons (pg_name (i := 2) sc.nd rfl (by first | exact Or.inl rfl | exact Or.inr rfl)) (pgs_cons (pg_name (i := 3) sc.nd rfl (by first | exact Or.inl rfl | exact Or.inr rfl)) (pgs_cons (pg_name (i := 4) sc.nd rfl (by first | exact Or.inl rfl | exact Or.inr rfl)) (pgs_cons (pg_name (i := 5) sc.nd rfl (by first | exact Or.inl rfl | exact Or.inr rfl)) pgs_nil)))))))
  (pss_cons (ps_set (i := 1) sc.nd rfl (by first | exact Or.inl rfl | exact Or.inr rfl) (pe_join pe_str (pe_callB (cr_srt rfl) (by rfl) T.n_sorted (by decide +kernel) (pa_cons (pv 1) pa_nil))))
  (pss_cons (ps_set (i := 6) sc.nd rfl (by first | exact Or.inl rfl | exact Or.inr rfl) (pe_lst pa_nil))
  (pss_cons (ps_for PassesOwn.never rfl (pi_list (pv 2)) (pg_name (i := 7) sc.nd rfl (by first | exact Or.inl rfl | exact Or.inr rfl)) (pss_one (ps_set (i := 6) sc.nd rfl (by first | exact Or.inl rfl | exact Or.inr rfl) (pe_op op_cat (pv 6) (pe_lc (own := [("_law_mark", 8)]) (g := gName 8) (by rfl) sc.nd (pi_str (pv 1)) (blkOk_by (own := [("_law_mark", 8)]) (by kernel_rfl)) (fun _ _ _ _ _ => pg_name (i := 8) sc.nd rfl (by first | exact Or.inl rfl | exact Or.inr rfl)) (fun _ _ _ _ _ => pts_nil) (fun _ _ _ _ _ => (pe_op op_catA (pe_tup (pa_cons (pv 7) (pa_cons (pv 8) pa_nil))) (pe_dget hr.u1 (pv 3) (pe_tup (pa_cons (pv 7) (pa_cons (pv 8) pa_nil))) (fun _ _ => rfl)))))))))
  (pss_cons (ps_setLc (i := 9) (own := [("_law_post", 7)]) (g := gName 7) (by rfl) sc.nd rfl rfl (sw_true rfl rfl rfl (by decide +kernel)) (pi_list (pv 2)) (blkOk_by (own := [("_law_post", 7)]) (by kernel_rfl)) (fun _ _ _ _ _ => pg_name (i := 7) sc.nd rfl (by first | exact Or.inl rfl | exact Or.inr rfl)) (fun _ _ _ _ _ => pts_nil) (fun _ _ _ _ _ => (pe_op op_catA (pe_tup (pa_cons (pv 7) pa_nil)) (pe_dget hr.u1 (pv 4) (pv 7) (fun _ _ => rfl)))))
  (pss_one (ps_ret (pe_tup (pa_cons (pv 1) (pa_cons (pe_callTy call_tuple_of (by rfl) T.n_tuple (by decide +kernel) (pa_cons (pv 2) pa_nil)) (pa_cons (pe_callTy call_tuple_of (by rfl) T.n_tuple (by decide +kernel) (pa_cons (pv 6) pa_nil)) (pa_cons (pe_callTy call_tuple_of (by rfl) T.n_tuple (by decide +kernel) (pa_cons (pv 9) pa_nil)) (pa_cons (pe_callTy call_tuple_of (by rfl) T.n_tuple (by decide +kernel) (pa_cons (pe_lc (own := [("_law_post", 7)]) (g := gName 7) (by rfl) sc.nd (pi_list (pv 2)) (blkOk_by (own := [("_law_post", 7)]) (by kernel_rfl)) (fun _ _ _ _ _ => pg_name (i := 7) sc.nd rfl (by first | exact Or.inl rfl | exact Or.inr rfl)) (fun _ _ _ _ _ => (pts_one (pt_cmpR op_in_seq (pv 7) (pv 5) (by rfl)))) (fun _ _ _ _ _ => (pv 7))) pa_nil)) pa_nil)))))))))))))
theorem sc_law_parts : FnScope ["_law_pool_here", "_law_model_here", "_law_line_here", "_law_ends", "_law_part", "_law_abc", "_law_lines"] ["_law_pool_here", "_law_model_here"] (defScope st_law_parts) := ⟨rfl, rfl, rfl, by decide +kernel, rfl, by decide +kernel, by decide +kernel⟩
theorem ok_law_parts (T : Tx K mg) : FnOk P w K mg base CX0 3 (He.ga K "_law_parts") (fdOf K (He.ga K "_law_parts")) ["_law_pool_here", "_law_model_here"] (sp_law_parts K) := by
  have sc := sc_law_parts
  refine T.f_law_parts.ok sc (fun vs H Q E h => ?_) (fun cdv A outer s H vs Q E hr h => ⟨t_law_parts K, PSs.nox ?_, pure_law_parts h⟩)
  · obtain ⟨_, _, rfl, _⟩ := h
    rfl
  · exact (pss_cons (ps_set (i := 2) sc.nd rfl (by first | exact Or.inl rfl | exact Or.inr rfl) (pe_call (ok_law_lineF T) (hr.mono (by decide)) (by rfl) T.g_law_lineF T.k_law_lineF T.b_law_lineF .nil pass0 (pa_cons (pv 1) pa_nil)))
  (pss_cons (ps_setLc (i := 3) (own := [("_law_part", 4)]) (g := gName 4) (by rfl) sc.nd rfl rfl (sw_true rfl rfl rfl (by decide +kernel)) (pi_tup (pe_ix ix_tup (pv 2) pe_int (fun _ _ => rfl))) (blkOk_by (own := [("_law_part", 4)]) (by kernel_rfl)) (fun _ _ _ _ _ => pg_name (i := 4) sc.nd rfl (by first | exact Or.inl rfl | exact Or.inr rfl)) (fun _ _ _ _ _ => (pts_one (PW.pt (pw_or (pt_cmpR (op_neD hr.units) (pe_slice sl_tupA (pv 4) (po_some pe_int) po_none) (pe_tup (pa_cons (pe_ix ix_tup (pv 4) pe_int (fun _ _ => rfl)) (pa_cons pe_int pa_nil))) (nomark _)) (pw_or1 (pt_cmpR op_eq (pe_call (ok_law_draw T) (hr.mono (by decide)) (by rfl) T.g_law_draw T.k_law_draw T.b_law_draw .nil pass0 (pa_cons (pv 0) (pa_cons pe_int pa_nil))) pe_int (nomark _))))))) (fun _ _ _ _ _ => (pv 4)))
  (pss_cons (ps_set (i := 5) sc.nd rfl (by first | exact Or.inl rfl | exact Or.inr rfl) (pe_join pe_str (pe_call (ok_law_shufU T) (hr.mono (by decide)) (by rfl) T.g_law_shufU T.k_law_shufU T.b_law_shufU .nil pass0 (pa_cons (pv 0) (pa_cons (pe_ix ix_tup (pv 2) pe_int (fun _ _ => rfl)) pa_nil)))))
  (pss_cons (ps_set (i := 6) sc.nd rfl (by first | exact Or.inl rfl | exact Or.inr rfl) (pe_callTy call_tuple_of (by rfl) T.n_tuple (by decide +kernel) (pa_cons (pe_call (ok_law_shufU T) (hr.mono (by decide)) (by rfl) T.g_law_shufU T.k_law_shufU T.b_law_shufU .nil pass0 (pa_cons (pv 0) (pa_cons (pe_ix ix_tup (pv 2) pe_int (fun _ _ => rfl)) pa_nil))) pa_nil)))
  (pss_one (ps_ret (pe_lst (pa_cons (pv 5) (pa_cons (pe_ix ix_tup (pv 2) pe_int (fun _ _ => rfl)) (pa_cons (pv 6) (pa_cons (pe_callTy call_tuple_of (by rfl) T.n_tuple (by decide +kernel) (pa_cons (pe_call (ok_law_shufU T) (hr.mono (by decide)) (by rfl) T.g_law_shufU T.k_law_shufU T.b_law_shufU .nil pass0 (pa_cons (pv 0) (pa_cons (pv 3) pa_nil))) pa_nil)) (pa_cons (pe_callTy call_tuple_of (by rfl) T.n_tuple (by decide +kernel) (pa_cons (pe_call (ok_law_shufU T) (hr.mono (by decide)) (by rfl) T.g_law_shufU T.k_law_shufU T.b_law_shufU .nil pass0 (pa_cons (pv 0) (pa_cons (pe_ix ix_tup (pv 2) pe_int (fun _ _ => rfl)) pa_nil))) pa_nil)) pa_nil))))))))))))
theorem sc_law_is_loop : FnScope ["_law_loop", "_law_line_here", "_law_told"] ["_law_loop", "_law_line_here"] (defScope st_law_is_loop) := ⟨rfl, rfl, rfl, by decide +kernel, rfl, by decide +kernel, by decide +kernel⟩
theorem ok_law_is_loop (T : Tx K mg) : FnOk P w K mg base CX0 8 (He.ga K "_law_is_loop") (fdOf K (He.ga K "_law_is_loop")) ["_law_loop", "_law_line_here"] (sp_law_is_loop K) := by
  have sc := sc_law_is_loop
  refine T.f_law_is_loop.ok sc (fun vs H Q E h => ?_) (fun cdv A outer s H vs Q E hr h => ⟨t_law_is_loop K, PSs.nox ?_, pure_law_is_loop h⟩)
  · obtain ⟨_, _, rfl, _⟩ := h
    rfl
  · exact (pss_cons (ps_set (i := 2) sc.nd rfl (by first | exact Or.inl rfl | exact Or.inr rfl) (pe_tup (pa_cons (pe_prop (pv 0) T.c_Loop T.p_Loop_signs (ok_Loop_signs T) (hr.mono (by decide)) T.b_Loop_signs .nil pass0 rfl) (pa_cons (pe_prop (pv 0) T.c_Loop T.p_Loop_states (ok_Loop_states T) (hr.mono (by decide)) T.b_Loop_states .nil pass0 rfl) (pa_cons (pe_prop (pv 0) T.c_Loop T.p_Loop_rows (ok_Loop_rows T) (hr.mono (by decide)) T.b_Loop_rows .nil pass0 rfl) (pa_cons (pe_prop (pv 0) T.c_Loop T.p_Loop_turns (ok_Loop_turns T) (hr.mono (by decide)) T.b_Loop_turns .nil pass0 rfl) (pa_cons (pe_prop (pv 0) T.c_Loop T.p_Loop_yes (ok_Loop_yes T) (hr.mono (by decide)) T.b_Loop_yes .nil pass0 rfl) pa_nil)))))))
  (pss_one (ps_ret (pe_and (pe_cmpR (op_eqD hr.units) (pe_call (ok_law_face T 6) (hr.mono (by decide)) (by rfl) T.g_law_face T.k_law_face T.b_law_face .nil pass0 (pa_cons (pv 2) pa_nil)) (pe_call (ok_law_face T 6) (hr.mono (by decide)) (by rfl) T.g_law_face T.k_law_face T.b_law_face .nil pass0 (pa_cons (pv 1) pa_nil)) (nomark _)) (pe_one (pe_cmpR (op_eqD hr.units) (pe_call (ok_law_face T 6) (hr.mono (by decide)) (by rfl) T.g_law_face T.k_law_face T.b_law_face .nil pass0 (pa_cons (pe_prop (pv 0) T.c_Loop T.p_Loop_row (ok_Loop_row T) (hr.mono (by decide)) T.b_Loop_row .nil pass0 rfl) pa_nil)) (pe_call (ok_law_face T 6) (hr.mono (by decide)) (by rfl) T.g_law_face T.k_law_face T.b_law_face .nil pass0 (pa_cons (pv 1) pa_nil)) (nomark _)))))))
theorem sc_law_other : FnScope ["_law_pool_here", "_law_model_here", "_law_line_here", "_law_way", "_law_lines", "_law_ends", "_law_oks", "_law_at", "_law_k", "_law_post", "_law_posts", "_law_later"] ["_law_pool_here", "_law_model_here"] (defScope st_law_other) := ⟨rfl, rfl, rfl, by decide +kernel, rfl, by decide +kernel, by decide +kernel⟩
theorem ok_law_other (T : Tx K mg) : FnOk P w K mg base CX0 2 (He.ga K "_law_other") (fdOf K (He.ga K "_law_other")) ["_law_pool_here", "_law_model_here"] (sp_law_other K) := by
  have sc := sc_law_other
  refine T.f_law_other.ok sc (fun vs H Q E h => ?_) (fun cdv A outer s H vs Q E hr h => ⟨t_law_other K, PSs.nox ?_, pure_law_other h⟩)
  · obtain ⟨_, _, rfl, _⟩ := h
    rfl
  · exact (pss_cons (ps_set (i := 2) sc.nd rfl (by first | exact Or.inl rfl | exact Or.inr rfl) (pe_call (ok_law_lineF T) (hr.mono (by decide)) (by rfl) T.g_law_lineF T.k_law_lineF T.b_law_lineF .nil pass0 (pa_cons (pv 1) pa_nil)))
  (pss_cons (ps_set (i := 3) sc.nd rfl (by first | exact Or.inl rfl | exact Or.inr rfl) (pe_call (ok_law_draw T) (hr.mono (by decide)) (by rfl) T.g_law_draw T.k_law_draw T.b_law_draw .nil pass0 (pa_cons (pv 0) (pa_cons pe_int pa_nil))))
  (pss_cons (ps_asg (pe_tup (pa_cons (pe_callTy call_list_of (by rfl) T.n_list (by decide +kernel) (pa_cons (pe_ix ix_tup (pv 2) pe_int (fun _ _ => rfl)) pa_nil)) (pa_cons (pe_callTy call_list_of (by rfl) T.n_list (by decide +kernel) (pa_cons (pe_ix ix_tup (pv 2) pe_int (fun _ _ => rfl)) pa_nil)) (pa_cons (pe_callTy call_list_of (by rfl) T.n_list (by decide +kernel) (pa_cons (pe_ix ix_tup (pv 2) pe_int (fun _ _ => rfl)) pa_nil)) pa_nil)))) (pg_tup rfl (pgs_cons (pg_name (i := 4) sc.nd rfl (by first | exact Or.inl rfl | exact Or.inr rfl)) (pgs_cons (pg_name (i := 5) sc.nd rfl (by first | exact Or.inl rfl | exact Or.inr rfl)) (pgs_cons (pg_name (i := 6) sc.nd rfl (by first | exact Or.inl rfl | exact Or.inr rfl)) pgs_nil)))))
  (pss_cons (ps_asg (pe_tup (pa_cons (pe_call (ok_law_draw T) (hr.mono (by decide)) (by rfl) T.g_law_draw T.k_law_draw T.b_law_draw .nil pass0 (pa_cons (pv 0) (pa_cons (pe_callB call_len (by rfl) T.n_len (by decide +kernel) (pa_cons (pv 4) pa_nil)) pa_nil))) (pa_cons (pe_call (ok_law_draw T) (hr.mono (by decide)) (by rfl) T.g_law_draw T.k_law_draw T.b_law_draw .nil pass0 (pa_cons (pv 0) (pa_cons (pe_callB call_len (by rfl) T.n_len (by decide +kernel) (pa_cons (pv 5) pa_nil)) pa_nil))) pa_nil))) (pg_tup rfl (pgs_cons (pg_name (i := 7) sc.nd rfl (by first | exact Or.inl rfl | exact Or.inr rfl)) (pgs_cons (pg_name (i := 8) sc.nd rfl (by first | exact Or.inl rfl | exact Or.inr rfl)) pgs_nil))))
  (pss_cons (ps_if (pt_cmpR op_eq (pv 3) pe_int (nomark _)) (pss_one (ps_asg (pe_op op_catA (pe_slice sl_tupA (pe_ix ix_list (pv 4) (pv 7) (fun _ _ => rfl)) po_none (po_some pe_int)) (pe_tup (pa_cons (pe_op op_add (pe_ix ix_tup (pe_ix ix_list (pv 4) (pv 7) (fun _ _ => rfl)) pe_int (fun _ _ => rfl)) pe_int) pa_nil))) (pg_sub (pv 4) (pv 7) set_list))) pss_nil)
  (pss_cons (ps_if (pt_cmpR op_eq (pv 3) pe_int (nomark _)) (pss_one (ps_asg (pe_op op_catA (pe_slice sl_tupA (pe_ix ix_list (pv 5) (pv 8) (fun _ _ => rfl)) po_none (po_some pe_int)) (pe_tup (pa_cons (pe_op op_sub (pe_ix ix_tup (pe_ix ix_list (pv 5) (pv 8) (fun _ _ => rfl)) pe_int (fun _ _ => rfl)) pe_int) pa_nil))) (pg_sub (pv 5) (pv 8) set_list))) pss_nil)
  (pss_cons (ps_if (pt_cmpR op_eq (pv 3) pe_int (nomark _)) (pss_one (ps_set (i := 6) sc.nd rfl (by first | exact Or.inl rfl | exact Or.inr rfl) (pe_lc (own := [("_law_post", 9)]) (g := gName 9) (by rfl) sc.nd (pi_tup (pe_ix ix_tup (pv 2) pe_int (fun _ _ => rfl))) (blkOk_by (own := [("_law_post", 9)]) (by kernel_rfl)) (fun _ _ _ _ _ => pg_name (i := 9) sc.nd rfl (by first | exact Or.inl rfl | exact Or.inr rfl)) (fun _ _ _ _ _ => (pts_one (pt_cmpR op_ne (pe_cmpR op_in_seq (pv 9) (pv 6) (by rfl)) (pe_cmpR op_eq (pv 9) (pe_ix ix_tup (pe_ix ix_tup (pv 2) pe_int (fun _ _ => rfl)) (pv 8) (fun _ _ => rfl)) (nomark _)) (nomark _)))) (fun _ _ _ _ _ => (pv 9))))) pss_nil)
  (pss_cons (ps_if (PW.pt (pw_and (pt_cmpR op_gt (pv 3) pe_int (nomark _)) (pw_and1 (pt_cmpR op_eq (pe_callB call_len (by rfl) T.n_len (by decide +kernel) (pa_cons (pe_ix ix_tup (pv 2) pe_int (fun _ _ => rfl)) pa_nil)) pe_int (nomark _))))) (pss_one (ps_ret (pe_op op_catA (pe_slice sl_tupA (pv 2) po_none (po_some pe_int)) (pe_tup (pa_cons (pe_slice sl_tupA (pe_ix ix_tup (pv 2) pe_int (fun _ _ => rfl)) (po_some (pe_callB call_len (by rfl) T.n_len (by decide +kernel) (pa_cons (pv 6) pa_nil))) po_none) pa_nil))))) pss_nil)
  (pss_cons (ps_if (pt_cmpR op_eq (pv 3) pe_int (nomark _)) (pss_cons (ps_set (i := 10) sc.nd rfl (by first | exact Or.inl rfl | exact Or.inr rfl) (pe_op op_cat (pe_slice sl_list (pe_ix ix_list (pv 1) pe_int (fun _ _ => rfl)) (po_some pe_int) po_none) (pe_slice sl_list (pe_ix ix_list (pv 1) pe_int (fun _ _ => rfl)) po_none (po_some pe_int))))
  (pss_one (ps_ret (pe_call (ok_law_lineF T) (hr.mono (by decide)) (by rfl) T.g_law_lineF T.k_law_lineF T.b_law_lineF .nil pass0 (pa_cons (pe_lst (pa_cons (pe_ix ix_list (pv 1) pe_int (fun _ _ => rfl)) (pa_cons (pv 10) (pa_cons (pe_ix ix_list (pv 1) pe_int (fun _ _ => rfl)) (pa_cons (pe_ix ix_list (pv 1) pe_int (fun _ _ => rfl)) (pa_cons (pe_ix ix_list (pv 1) pe_int (fun _ _ => rfl)) pa_nil)))))) pa_nil))))) pss_nil)
  (pss_cons (ps_if (pt_cmpR op_eq (pv 3) pe_int (nomark _)) (pss_cons (ps_setLc (i := 11) (own := [("_law_post", 9)]) (g := gName 9) (by rfl) sc.nd rfl rfl (sw_true rfl rfl rfl (by decide +kernel)) (pi_tup (pe_ix ix_tup (pv 2) pe_int (fun _ _ => rfl))) (blkOk_by (own := [("_law_post", 9)]) (by kernel_rfl)) (fun _ _ _ _ _ => pg_name (i := 9) sc.nd rfl (by first | exact Or.inl rfl | exact Or.inr rfl)) (fun _ _ _ _ _ => (pts_one (pt_cmpR op_ne (pv 9) (pe_ix ix_tup (pe_ix ix_list (pv 4) (pv 7) (fun _ _ => rfl)) pe_int (fun _ _ => rfl)) (nomark _)))) (fun _ _ _ _ _ => (pv 9)))
  (pss_one (ps_asg (pe_op op_catA (pe_slice sl_tupA (pe_ix ix_list (pv 4) (pv 7) (fun _ _ => rfl)) po_none (po_some pe_int)) (pe_tup (pa_cons (pe_ix ix_list (pv 11) pe_int (fun _ _ => rfl)) (pa_cons (pe_ix ix_tup (pe_ix ix_list (pv 4) (pv 7) (fun _ _ => rfl)) pe_int (fun _ _ => rfl)) pa_nil)))) (pg_sub (pv 4) (pv 7) set_list)))) pss_nil)
  (pss_one (ps_ret (pe_tup (pa_cons (pe_ix ix_tup (pv 2) pe_int (fun _ _ => rfl)) (pa_cons (pe_ix ix_tup (pv 2) pe_int (fun _ _ => rfl)) (pa_cons (pe_callTy call_tuple_of (by rfl) T.n_tuple (by decide +kernel) (pa_cons (pv 4) pa_nil)) (pa_cons (pe_callTy call_tuple_of (by rfl) T.n_tuple (by decide +kernel) (pa_cons (pv 5) pa_nil)) (pa_cons (pe_callTy call_tuple_of (by rfl) T.n_tuple (by decide +kernel) (pa_cons (pv 6) pa_nil)) pa_nil))))))))))))))))))
theorem sc_law_right : FnScope ["_law_pool_here", "_law_model_here", "_law_line_here", "_law_abc", "_law_posts", "_law_lines", "_law_ends", "_law_oks", "_law_near", "_law_loops_here", "_law_loop", "_law_plain", "_law_post", "_law_bare", "_law_far", "_law_mate"] ["_law_pool_here"] (defScope st_law_right) := ⟨rfl, rfl, rfl, by decide +kernel, rfl, by decide +kernel, by decide +kernel⟩
theorem ok_law_right (T : Tx K mg) : FnOk P w K mg base CX0 9 (He.ga K "_law_right") (fdOf K (He.ga K "_law_right")) ["_law_pool_here"] (sp_law_right K) := by
  have sc := sc_law_right
  obtain ⟨gqLoop_init_5_yes, kbqLoop_init_5_yes⟩ := T.qLoop_init_5_yes
  obtain ⟨gqLoop_init_1_yes_turns_rows_states_signs, kbqLoop_init_1_yes_turns_rows_states_signs⟩ := T.qLoop_init_1_yes_turns_rows_states_signs
  obtain ⟨gqLoop_made_1_row, kbqLoop_made_1_row⟩ := T.qLoop_made_1_row
  obtain ⟨gqLoop_init_4, kbqLoop_init_4⟩ := T.qLoop_init_4
  refine T.f_law_right.ok sc (fun vs H Q E h => ?_) (fun cdv A outer s H vs Q E hr h => ⟨t_law_right K, PSs.nox ?_, pure_law_right T.loopI (noB_ok T.no_Loop) T.dfl0 T.dfk0 h⟩)
  · obtain ⟨_, rfl, _⟩ := h
    rfl
  · exact (pss_cons (ps_set (i := 1) sc.nd rfl (by first | exact Or.inl rfl | exact Or.inr rfl) (pe_call (ok_law_model T) (hr.mono (by decide)) (by rfl) T.g_law_model T.k_law_model T.b_law_model .nil pass0 (pa_cons (pv 0) (pa_cons (pe_call (ok_law_signs T) (hr.mono (by decide)) (by rfl) T.g_law_signs T.k_law_signs T.b_law_signs .nil pass0 (pa_cons (pv 0) (pa_cons pe_int pa_nil))) (pa_cons pe_int (pa_cons pe_bl pa_nil))))))
  (pss_cons (ps_set (i := 2) sc.nd rfl (by first | exact Or.inl rfl | exact Or.inr rfl) (pe_call (ok_law_lineF T) (hr.mono (by decide)) (by rfl) T.g_law_lineF T.k_law_lineF T.b_law_lineF .nil pass0 (pa_cons (pv 1) pa_nil)))
  (pss_cons (ps_asg (pe_call (ok_law_parts T) (hr.mono (by decide)) (by rfl) T.g_law_parts T.k_law_parts T.b_law_parts .nil pass0 (pa_cons (pv 0) (pa_cons (pv 1) pa_nil))) (pg_lst rfl (pgs_cons (pg_name (i := 3) sc.nd rfl (by first | exact Or.inl rfl | exact Or.inr rfl)) (pgs_cons (pg_name (i := 4) sc.nd rfl (by first | exact Or.inl rfl | exact Or.inr rfl)) (pgs_cons (pg_name (i := 5) sc.nd rfl (by first | exact Or.inl rfl | exact Or.inr rfl)) (pgs_cons (pg_name (i := 6) sc.nd rfl (by first | exact Or.inl rfl | exact Or.inr rfl)) (pgs_cons (pg_name (i := 7) sc.nd rfl (by first | exact Or.inl rfl | exact Or.inr rfl)) pgs_nil)))))))
  (pss_cons (ps_set (i := 8) sc.nd rfl (by first | exact Or.inl rfl | exact Or.inr rfl) (pe_makeK (ks := ["yes"]) T.mk_Loop (ok_Loop_init T) (hr.mono (by decide)) (by rfl) T.g_Loop kbqLoop_init_5_yes pass0 (pa_cons (pv 3) (pa_cons (pv 4) (pa_cons (pv 5) (pa_cons (pv 6) pa_nil)))) (pk_cons (pv 7) pk_nil)))
  (pss_cons (ps_set (i := 9) sc.nd rfl (by first | exact Or.inl rfl | exact Or.inr rfl) (pe_lst (pa_cons (pv 8) (pa_cons (pe_makeK0 (ks := ["yes", "turns", "rows", "states", "signs"]) T.mk_Loop (ok_Loop_init T) (hr.mono (by decide)) (by rfl) T.g_Loop kbqLoop_init_1_yes_turns_rows_states_signs pass0 (pk_cons (pv 7) (pk_cons (pv 6) (pk_cons (pv 5) (pk_cons (pv 4) (pk_cons (pv 3) pk_nil)))))) (pa_cons (ClX.pe_cmeth (pe_glob (by rfl) T.g_Loop (show RelV (.ref (He.ga K "Loop")) (.ref (He.ga K "Loop")) from rfl)) T.cr_Loop T.cm_Loop_made ((ok_Loop_made T).raw T.b_Loop_made .nil) (hr.mono (by decide)) pass0 (pa_cons (pv 2) pa_nil)) pa_nil)))))
  (pss_cons (ps_set (i := 9) sc.nd rfl (by first | exact Or.inl rfl | exact Or.inr rfl) (pe_op op_cat (pv 9) (pe_lst (pa_cons (pe_cmethK (ks := ["row"]) (pe_glob (by rfl) T.g_Loop (show RelV (.ref (He.ga K "Loop")) (.ref (He.ga K "Loop")) from rfl)) T.cr_Loop T.cm_Loop_made (ok_Loop_made T) (hr.mono (by decide)) kbqLoop_made_1_row pass0 (pk_cons (pe_prop (pv 8) T.c_Loop T.p_Loop_row (ok_Loop_row T) (hr.mono (by decide)) T.b_Loop_row .nil pass0 rfl) pk_nil)) (pa_cons (pe_makeK (ks := ["yes"]) T.mk_Loop (ok_Loop_init T) (hr.mono (by decide)) (by rfl) T.g_Loop kbqLoop_init_5_yes pass0 (pa_cons (pe_ix ix_tup (pv 2) pe_int (fun _ _ => rfl)) (pa_cons (pv 4) (pa_cons (pe_ix ix_tup (pv 2) pe_int (fun _ _ => rfl)) (pa_cons (pe_ix ix_tup (pv 2) pe_int (fun _ _ => rfl)) pa_nil)))) (pk_cons (pe_ix ix_tup (pv 2) pe_int (fun _ _ => rfl)) pk_nil)) pa_nil)))))
  (pss_cons (ps_if (pt_not (pt_val (pe_callB (cr_all rfl) (by rfl) T.n_all (by decide +kernel) (pa_cons (pe_lc (own := [("_law_loop", 10)]) (g := gName 10) (by rfl) sc.nd (pi_list (pv 9)) (blkOk_by (own := [("_law_loop", 10)]) (by kernel_rfl)) (fun _ _ _ _ _ => pg_name (i := 10) sc.nd rfl (by first | exact Or.inl rfl | exact Or.inr rfl)) (fun _ _ _ _ _ => pts_nil) (fun _ _ _ _ _ => (pe_call (ok_law_is_loop T) (hr.mono (by decide)) (by rfl) T.g_law_is_loop T.k_law_is_loop T.b_law_is_loop .nil pass0 (pa_cons (pv 10) (pa_cons (pv 2) pa_nil))))) pa_nil)))) (pss_one (ps_ret pe_bl)) pss_nil)
  (pss_cons (ps_if (pt_not (pt_val (pe_callB (cr_all rfl) (by rfl) T.n_all (by decide +kernel) (pa_cons (pe_lc (own := [("_law_loop", 10)]) (g := gName 10) (by rfl) sc.nd (pi_list (pv 9)) (blkOk_by (own := [("_law_loop", 10)]) (by kernel_rfl)) (fun _ _ _ _ _ => pg_name (i := 10) sc.nd rfl (by first | exact Or.inl rfl | exact Or.inr rfl)) (fun _ _ _ _ _ => pts_nil) (fun _ _ _ _ _ => (pe_and (pe_cmpR (op_eqO T.s_Loop_eq (ok_Loop_eq T) (hr.mono (by decide)) T.b_Loop_eq pass0) (pv 10) (pv 8) (nomark _)) (pe_one (pe_not (pe_cmpR (op_neA T.ne_Loop T.s_Loop_eq (ok_Loop_eq T) (hr.mono (by decide)) T.b_Loop_eq pass0) (pv 10) (pv 8) (nomark _))))))) pa_nil)))) (pss_one (ps_ret pe_bl)) pss_nil)
  (pss_cons (ps_set (i := 11) sc.nd rfl (by first | exact Or.inl rfl | exact Or.inr rfl) (pe_op op_catA (pe_slice sl_tupA (pv 2) po_none (po_some pe_int)) (pe_tup (pa_cons (pe_callTy call_tuple_of (by rfl) T.n_tuple (by decide +kernel) (pa_cons (pe_lc (own := [("_law_post", 12)]) (g := gName 12) (by rfl) sc.nd (pi_tup (pv 4)) (blkOk_by (own := [("_law_post", 12)]) (by kernel_rfl)) (fun _ _ _ _ _ => pg_name (i := 12) sc.nd rfl (by first | exact Or.inl rfl | exact Or.inr rfl)) (fun _ _ _ _ _ => pts_nil) (fun _ _ _ _ _ => (pe_tup (pa_cons (pv 12) (pa_cons (pv 12) (pa_cons pe_int pa_nil)))))) pa_nil)) (pa_cons (pe_tup pa_nil) pa_nil)))))
  (pss_cons (ps_set (i := 13) sc.nd rfl (by first | exact Or.inl rfl | exact Or.inr rfl) (pe_makeK (ks := []) T.mk_Loop (ok_Loop_init T) (hr.mono (by decide)) (by rfl) T.g_Loop kbqLoop_init_4 pass0 (pa_cons (pv 3) (pa_cons (pv 4) (pa_cons (pv 5) pa_nil))) pk_nil))
  (pss_cons (ps_if (PW.pt (pw_or (pt_not (pt_val (pe_call (ok_law_is_loop T) (hr.mono (by decide)) (by rfl) T.g_law_is_loop T.k_law_is_loop T.b_law_is_loop .nil pass0 (pa_cons (pv 13) (pa_cons (pv 11) pa_nil))))) (pw_or1 (pt_cmpR op_ne (pe_cmpR (op_eqO T.s_Loop_eq (ok_Loop_eq T) (hr.mono (by decide)) T.b_Loop_eq pass0) (pv 13) (pv 8) (nomark _)) (pe_cmpR (op_eqD hr.units) (pv 11) (pv 2) (nomark _)) (nomark _))))) (pss_one (ps_ret pe_bl)) pss_nil)
  (pss_cons (ps_set (i := 14) sc.nd rfl (by first | exact Or.inl rfl | exact Or.inr rfl) (pe_call (ok_law_other T) (hr.mono (by decide)) (by rfl) T.g_law_other T.k_law_other T.b_law_other .nil pass0 (pa_cons (pv 0) (pa_cons (pv 1) pa_nil))))
  (pss_cons (ps_set (i := 15) sc.nd rfl (by first | exact Or.inl rfl | exact Or.inr rfl) (ClX.pe_cmeth (pe_glob (by rfl) T.g_Loop (show RelV (.ref (He.ga K "Loop")) (.ref (He.ga K "Loop")) from rfl)) T.cr_Loop T.cm_Loop_made ((ok_Loop_made T).raw T.b_Loop_made .nil) (hr.mono (by decide)) pass0 (pa_cons (pv 14) pa_nil)))
  (pss_cons (ps_if (PW.pt (pw_or (pt_cmpR (op_eqO T.s_Loop_eq (ok_Loop_eq T) (hr.mono (by decide)) T.b_Loop_eq pass0) (pv 15) (pv 8) (nomark _)) (pw_or (pt_not (pt_cmpR (op_neA T.ne_Loop T.s_Loop_eq (ok_Loop_eq T) (hr.mono (by decide)) T.b_Loop_eq pass0) (pv 15) (pv 8) (nomark _))) (pw_or1 (pt_not (pt_val (pe_call (ok_law_is_loop T) (hr.mono (by decide)) (by rfl) T.g_law_is_loop T.k_law_is_loop T.b_law_is_loop .nil pass0 (pa_cons (pv 15) (pa_cons (pv 14) pa_nil))))))))) (pss_one (ps_ret pe_bl)) pss_nil)
  (pss_one (ps_ret (pe_and (pe_cmpR (op_neA T.ne_Loop T.s_Loop_eq (ok_Loop_eq T) (hr.mono (by decide)) T.b_Loop_eq pass0) (pv 8) (pv 2) (nomark _)) (pe_and (pe_not (pe_cmpR (op_eqA T.s_Loop_eq (ok_Loop_eq T) (hr.mono (by decide)) T.b_Loop_eq pass0) (pv 8) (pe_ix ix_tup (pv 2) pe_int (fun _ _ => rfl)) (nomark _))) (pe_and (pe_callTy (call_boolN' T.no_bool_Loop T.no_len_Loop) (by rfl) T.n_bool (by decide +kernel) (pa_cons (pv 8) pa_nil)) (pe_one (pe_call (ok_law_is_loop T) (hr.mono (by decide)) (by rfl) T.g_law_is_loop T.k_law_is_loop T.b_law_is_loop .nil pass0 (pa_cons (pv 8) (pa_cons (pv 2) pa_nil)))))))))))))))))))))))
theorem sc_law : FnScope ["_law_script", "_law_k"] ["_law_script"] (defScope st_law) := ⟨rfl, rfl, rfl, by decide +kernel, rfl, by decide +kernel, by decide +kernel⟩
theorem ok_law (T : Tx K mg) : FnOk P w K mg base CX0 10 (He.ga K "law") (fdOf K (He.ga K "law")) ["_law_script"] (sp_law K) := by
  have sc := sc_law
  refine T.f_law.ok sc (fun vs H Q E h => ?_) (fun cdv A outer s H vs Q E hr h => ⟨t_law K, PSs.nox ?_, pure_law h⟩)
  · obtain ⟨_, _, rfl, _⟩ := h
    rfl
  · exact (pss_one (ps_ret (pe_callB (cr_all rfl) (by rfl) T.n_all (by decide +kernel) (pa_cons (pe_lc (own := [("_law_k", 1)]) (g := gName 1) (by rfl) sc.nd (pi_range1 (by rfl) T.n_range (pa_cons (pe_callB (call_max2 rfl) (by rfl) T.n_max (by decide +kernel) (pa_cons pe_int (pa_cons (pe_callB (call_min2 rfl) (by rfl) T.n_min (by decide +kernel) (pa_cons (pe_callB call_len (by rfl) T.n_len (by decide +kernel) (pa_cons (pv 0) pa_nil)) (pa_cons pe_int pa_nil))) pa_nil))) pa_nil)) (blkOk_by (own := [("_law_k", 1)]) (by kernel_rfl)) (fun _ _ _ _ _ => pg_name (i := 1) sc.nd rfl (by first | exact Or.inl rfl | exact Or.inr rfl)) (fun _ _ _ _ _ => pts_nil) (fun _ _ _ _ _ => (pe_call (ok_law_right T) (hr.mono (by decide)) (by rfl) T.g_law_right T.k_law_right T.b_law_right .nil pass0 (pa_cons (pe_call (ok_law_pool T) (hr.mono (by decide)) (by rfl) T.g_law_pool T.k_law_pool T.b_law_pool .nil pass0 (pa_cons (pe_call (ok_law_cell T) (hr.mono (by decide)) (by rfl) T.g_law_cell T.k_law_cell T.b_law_cell .nil pass0 (pa_cons (pv 0) (pa_cons (pv 1) pa_nil))) pa_nil)) pa_nil)))) pa_nil))))
end
end WB
namespace WB
open PySem PySem.Spec PyProof.Rows L2
theorem facts {P : Program} {w : World} {K : Fr'} {h : Heap} {mg : Str → Option Value} {f : Addr} (X : K.In h) (G : h.Ns mainGlobals mg) (hfa : mg ("law" : Str) = some (.ref f)) (c : SaysW fa fn ex K) :
    ∃ fd : FuncData, (∀ (s : Shared) (v : Value), BindsTo s fd ⟨[v], []⟩ [("_law_script", v)]) ∧ ∀ base : Heap, K.In base → base.Ns mainGlobals mg → FnOk P w K mg base CX0 10 f fd ["_law_script"] (sp_law K) := by
  have T : Tx K mg := ⟨c, h, X, G⟩
  have e := hfa.symm.trans T.g_law
  cases e
  have b := FunD.bindsA (ps := ["_law_script"]) (kws := d_law.kws K) T.f_law fun _ _ _ _ _ _ us hl => match us, hl with | [_], _ => rfl
  exact ⟨_, fun s v => b s [v] rfl, fun base _ _ => ok_law T⟩
end WB
open PySem PySem.W PySem.Calls PyProof.Rows in
set_option maxRecDepth 100000 in
set_option maxHeartbeats 0 in
theorem PySem.Challenge.cw_wherebegun_k13_loops_and_their_rows_holds : PySem.Challenge.rw_wherebegun_k13_loops_and_their_rows.Holds := by
  w_on; o_law
  refine HandSHeadRun.head_any (r := OpenLaw.row PySem.Challenge.rw_wherebegun_k13_loops_and_their_rows) (q := view (OpenLaw.row PySem.Challenge.rw_wherebegun_k13_loops_and_their_rows).prog [59]) (H := WB.hk) (ob := WB.ob) (M := 20000) (loose := WB.looseN) (d := HandSHeadRun.topDef (OpenLaw.row PySem.Challenge.rw_wherebegun_k13_loops_and_their_rows).prog 59) (kwd := []) WB.ob_eq
    (by kernel_rfl) (fun s => by kernel_rfl) WB.runH (by kernel_rfl) (by kernel_rfl) (by kernel_rfl) (by rfl) (by first | assumption | decide +kernel) (by decide +kernel) ⟨rfl, rfl, rfl, rfl, rfl, by decide +kernel⟩ ?hw ?hc
  case hw => w_witness2
  case hc =>
    refine L2.walk_ofE (l := PySem.Challenge.rw_wherebegun_k13_loops_and_their_rows) (n := 63) (k := 10) (x := "_law_script") (CX := L2.CX0) rfl (by decide) (by kernel_rfl) ⟨rfl, by decide, by decide⟩ ?F (fun _ _ _ _ z => z)
    intro w mg fa h Y G hmg0
    obtain ⟨K, KX, c⟩ := Y
    have hmg : mg ("law" : PySem.Str) = some (.ref fa) := by
      have e : (HandSHeadRun.topDef (OpenLaw.row PySem.Challenge.rw_wherebegun_k13_loops_and_their_rows).prog 59).name = ("law" : PySem.Str) := by kernel_rfl
      rw [← e]
      exact hmg0
    obtain ⟨fd, hb, hF⟩ := WB.facts (P := (PySem.Challenge.rw_wherebegun_k13_loops_and_their_rows).prog) (w := w) KX G hmg c
    exact ⟨K, fd, WB.sp_law K, KX, hb, fun H a ns hl _ hS => ⟨a, ns, rfl, hS, hl, fun _ => rfl⟩, hF⟩
