import PyProof.Rows.All
import Wide.All
import OpenK.AllK
import Wide.FinOn
import HandS.ForMost
import HandS.Property
import HandS.IsInst
import HandS.Defaults
import HandS.MakeKw
import HandS.WideBits
import HandS.TupAny
import HandS.Walk
import HandS.Deep
import HandS.OwnEq
import HandS.HeadHook4
import KE.KOpsOwn
import KE.KCallOwn
import HandS.Style
import HandS.TryOnly
import HandS.RaiseMore
import KE.DatumOrd
import PyProof.Rows.StrRev
import HandS.Strs
import PyProof.ListStr
import HandS.Conv
import HandS.More
import PyProof.StrLawsIn
import HandS.ClsMeth
import HandS.HeadNt
import HandS.Head0
import HandS.Head1
import HandS.Head2
import HandS.HeadEnd
import HandS.Star
import HandS.SetTxtIn
import PyProof.Rows.Range3
import PyProof.CollectStr
import PyProof.TupleOfSeq
import KE.GoesMore
import HandS.DictComp
import HandS.MakeKwOnly
import HandS.Wide
import PySem.Challenge.RW_wherebegun_k83_whole_rings_gone_several
set_option Elab.async false
set_option linter.all false
set_option maxRecDepth 100000
set_option maxHeartbeats 4000000
/-! own operators over the layer -/
namespace WB
open PySem PySem.Spec PyProof.Rows L2
section
variable {X : Cx} {CX : CXT} {k : Nat} {f C : Addr} {fd : FuncData} {ps : List Str} {sp : Sp} {dvs : List V} {ds : List Value} {E : XK}
/-- the def at f runs at A, somewhere below X -/
theorem run_sub {A : Around} {pins : List (Addr × Obj)} {σ : L2.St} {H : Hp} {s : Shared} {Q : VK} {us : List Value} {vs : List V} (F : FnOk X.prog X.w X.K X.mg X.base CX k f fd ps sp) (sb : Sub X k A) (hb : Binds X.K fd ps ds) (hd : Vals dvs ds) (hx : Passes CX X E)
    (I : Inv X pins σ H s) (r : Vals vs us) (h : sp (vs ++ dvs) H Q E) : wpAny (model X.prog X.w) A (call (.ref f) us) (EP X pins σ Q) X.xe s := by
  have r2 : Vals (vs ++ dvs) (us ++ ds) := r.append hd
  have hl : (us ++ ds).length = ps.length := by rw [← r2.length]; exact F.len _ _ _ _ h
  have e0 : Env0 X.prog X.w X.K X.mg X.base A X.stack s H := by
    have e := I.env0
    exact ⟨by rw [sb.fr]; exact e.frames, e.mod, e.bs, e.bsz, e.funs, e.frf, e.hok, e.bare⟩
  refine wpAny_call (codeAny_mono (F.run A X.stack s H ⟨us, []⟩ (us ++ ds) (vs ++ dvs) Q E sb.room e0 (hb s us I.kIn hl) r2 h) fun r s' hq => ?_)
  cases r with
  | error e => exact hx pins σ H s e s' I hq
  | ok fl =>
    cases fl with
    | ret u => exact I.after hq
    | next => exact False.elim hq
    | brk => exact False.elim hq
    | cont => exact False.elim hq
/-- what stands for an instance -/
theorem inst_at {pins : List (Addr × Obj)} {σ : L2.St} {H : Hp} {s : Shared} {a C dx : Addr} {fs : List (Str × V)} (I : Inv X pins σ H s) (e : H a = some (.ins C dx fs)) : ∃ ox od, PySem.W.InstAt s.heap a ox C od := by
  obtain ⟨mA, J, _⟩ := ins_get I.hok e
  obtain ⟨od, J, _⟩ := J.look
  exact ⟨_, _, J⟩
/-- an own special method's def: found on the class, a plain function -/
structure Spec1 (K : PySem.W.Frag) (C : Addr) (m : Str) (f : Addr) : Prop where
  at_ : PySem.W.findIn K (.ref C) m = some (some (.ref f))
  fn : PySem.W.isFn K (.ref f) = true
/-- len(o) -/
def rLenO (C : Addr) (sp : Sp) (E : XK) : List V → Hp → VK → Prop := fun xs H Q => ∃ a dx fs, xs = [.ref a] ∧ H a = some (.ins C dx fs) ∧ sp [.ref a] H (fun z H' => ∃ n : Nat, z = .int n ∧ n < 2 ^ 63 ∧ Q z H') E
theorem call_lenO (S : Spec1 X.K C "__len__" f) (F : FnOk X.prog X.w X.K X.mg X.base CX k f fd ps sp) (hr : Room (k + 1) X.A) (hb : Binds X.K fd ps []) (hx : Passes CX X E) : CallR X (.builtin "len") (rLenO C sp E) := by
  intro pins s σ H xs us Q I r h
  obtain ⟨a, dx, fs, rfl, ha, h⟩ := h
  obtain ⟨u, rfl, ru⟩ := vals1 r
  cases ru
  obtain ⟨ox, od, J⟩ := inst_at I ha
  obtain ⟨m, hF⟩ := I.fr
  refine PySem.W.len_K hF I.ok.mod.kin J S.at_ S.fn (wpAny_mono (run_sub (dvs := []) (vs := [.ref a]) F ⟨hr.in1, rfl⟩ hb .nil hx I (.cons rfl .nil) h) (fun v s' hv => ?_) fun _ _ z => z)
  obtain ⟨z, H', I', rz, n, rfl, hn, q⟩ := hv
  obtain ⟨t, rfl⟩ := rz
  exact ⟨⟨by omega, by omega⟩, .int n, H', I'.tok _, ⟨_, rfl⟩, q⟩
/-- str(o) -/
def rStrO (C : Addr) (sp : Sp) (E : XK) : List V → Hp → VK → Prop := fun xs H Q => ∃ a dx fs, xs = [.ref a] ∧ H a = some (.ins C dx fs) ∧ sp [.ref a] H (fun z H' => ∃ y, z = .str y ∧ Q z H') E
theorem call_strO (S : Spec1 X.K C "__str__" f) (F : FnOk X.prog X.w X.K X.mg X.base CX k f fd ps sp) (hr : Room (k + 2) X.A) (hb : Binds X.K fd ps []) (hx : Passes CX X E) : CallR X (.type "str") (rStrO C sp E) := by
  intro pins s σ H xs us Q I r h
  obtain ⟨a, dx, fs, rfl, ha, h⟩ := h
  obtain ⟨u, rfl, ru⟩ := vals1 r
  cases ru
  obtain ⟨ox, od, J⟩ := inst_at I ha
  have sb : Sub X k X.A.in1.in1 := ⟨hr.in1.in1, rfl⟩
  refine PySem.W.kso_call sb.room.units0 I.kIn J S.at_ S.fn (wpAny_mono (run_sub (dvs := []) (vs := [.ref a]) F sb hb .nil hx I (.cons rfl .nil) h) (fun v s' hv => ?_) fun _ _ z => z)
  obtain ⟨z, H', I', rz, y, rfl, q⟩ := hv
  obtain ⟨t, rfl⟩ := rz
  exact ⟨.str y, H', I', ⟨_, rfl⟩, q⟩
/-- o[i] -/
def rIxO (C : Addr) (sp : Sp) (E : XK) : R2 := fun x y H Q => ∃ a dx fs, x = .ref a ∧ H a = some (.ins C dx fs) ∧ sp [x, y] H Q E
/-- o == y, o != y by the own __eq__ -/
def rEqO (C : Addr) (sp : Sp) (E : XK) : R2 := fun x y H Q => ∃ a dx fs b dy gs, x = .ref a ∧ y = .ref b ∧ H a = some (.ins C dx fs) ∧ H b = some (.ins C dy gs) ∧ sp [x, y] H (fun z H' => ∃ c, z = .bl c ∧ Q z H') E
theorem op_eqO (S : Spec1 X.K C "__eq__" f) (F : FnOk X.prog X.w X.K X.mg X.base CX k f fd ps sp) (hr : Room k X.A) (hb : Binds X.K fd ps []) (hx : Passes CX X E) : OpR X (compareOp .Eq) (rEqO C sp E) := by
  intro pins s σ H x y v u Q I rx ry h
  obtain ⟨a, dx, fs, b, dy, gs, rfl, rfl, ha, hb', h⟩ := h
  cases rx
  cases ry
  obtain ⟨ox, od, J⟩ := inst_at I ha
  obtain ⟨ox', od', J'⟩ := inst_at I hb'
  obtain ⟨m, hF⟩ := I.fr
  have sb : Sub X k X.A := ⟨hr, rfl⟩
  show wpAny (model X.prog X.w) X.A (richCompare .Eq (.ref a) (.ref b)) (EP X pins σ Q) X.xe s
  refine PySem.W.cmp_K (op := .Eq) (tb := .ref C) sb.room.units0 hF I.ok.mod.kin J J'.type (by simp [PySem.W.notFirst]) S.at_ S.fn (wpAny_mono (run_sub (dvs := []) (vs := [.ref a, .ref b]) F sb hb .nil hx I (.cons rfl (.cons rfl .nil)) h) (fun v s' hv => ?_) fun _ _ z => z)
  obtain ⟨z, H', I', rz, c, rfl, q⟩ := hv
  cases rz
  exact ⟨.bl c, H', I', rfl, q⟩
/-- o != y: no __ne__ of its own -/
def rNeO (C : Addr) (sp : Sp) (E : XK) : R2 := fun x y H Q => ∃ a dx fs b dy gs, x = .ref a ∧ y = .ref b ∧ H a = some (.ins C dx fs) ∧ H b = some (.ins C dy gs) ∧ sp [x, y] H (fun z H' => ∃ c, z = .bl c ∧ Q (.bl (!c)) H') E
theorem ix_own (S : Spec1 X.K C "__getitem__" f) (hfn : PySem.W.fnIn X.K f = true) (F : FnOk X.prog X.w X.K X.mg X.base CX k f fd ps sp) (hr : Room (k + 1) X.A) (hb : Binds X.K fd ps []) (hx : Passes CX X E)
    {a b : Expr} {ta tb : TE} {pos : Pos} (ha : PE X a ta) (hi : PE X b tb) (hs : ∀ o i, subscripted b true o i = runValue (.builtin "lifetime.subscript" ⟨[o, i], []⟩)) : PE X (.Subscript a b pos) (tOp (rIxO C sp E) ta tb) := by
  refine ⟨fun pins s σ H Q I h => ?_⟩
  refine Subscript_ (binT ha hi I h fun v u s2 x y H2 I2 rx ry q => ?_)
  obtain ⟨p, dx, fs, rfl, hp, q⟩ := q
  cases rx
  obtain ⟨ox, od, J⟩ := inst_at I2 hp
  obtain ⟨m, hF⟩ := I2.fr
  exact PySem.W.sub_K hF I2.ok.mod.kin J S.at_ hfn S.fn (run_sub (dvs := []) (vs := [.ref p, y]) F ⟨hr.in1, rfl⟩ hb .nil hx I2 (.cons rfl (.cons ry .nil)) q) (hs _ _)
/-- y in o, y not in o -/
def rInO (C : Addr) (neg : Bool) (sp : Sp) (E : XK) : R2 := fun x y H Q => ∃ a dx fs, y = .ref a ∧ H a = some (.ins C dx fs) ∧ sp [y, x] H (fun z H' => ∃ c, z = .bl c ∧ Q (.bl (if neg then !c else c)) H') E
theorem op_inO (S : Spec1 X.K C "__contains__" f) (F : FnOk X.prog X.w X.K X.mg X.base CX k f fd ps sp) (hr : Room k X.A) (hb : Binds X.K fd ps []) (hx : Passes CX X E) : OpR X (compareOp .In) (rInO C false sp E) := by
  intro pins s σ H x y v u Q I rx ry h
  obtain ⟨a, dx, fs, rfl, ha, h⟩ := h
  cases ry
  obtain ⟨ox, od, J⟩ := inst_at I ha
  obtain ⟨m, hF⟩ := I.fr
  refine PySem.W.in_K hF I.ok.mod.kin J S.at_ S.fn (wpAny_mono (run_sub (dvs := []) (vs := [.ref a, x]) F ⟨hr, rfl⟩ hb .nil hx I (.cons rfl (.cons rx .nil)) h) (fun v s' hv => ?_) fun _ _ z => z)
  obtain ⟨z, H', I', rz, c, rfl, q⟩ := hv
  cases rz
  exact wpAny_truthy_bool ⟨.bl c, H', I', rfl, q⟩
theorem op_notInO (S : Spec1 X.K C "__contains__" f) (F : FnOk X.prog X.w X.K X.mg X.base CX k f fd ps sp) (hr : Room k X.A) (hb : Binds X.K fd ps []) (hx : Passes CX X E) : OpR X (compareOp .NotIn) (rInO C true sp E) := by
  intro pins s σ H x y v u Q I rx ry h
  obtain ⟨a, dx, fs, rfl, ha, h⟩ := h
  cases ry
  obtain ⟨ox, od, J⟩ := inst_at I ha
  obtain ⟨m, hF⟩ := I.fr
  refine PySem.W.notIn_K hF I.ok.mod.kin J S.at_ S.fn (wpAny_mono (run_sub (dvs := []) (vs := [.ref a, x]) F ⟨hr, rfl⟩ hb .nil hx I (.cons rfl (.cons rx .nil)) h) (fun v s' hv => ?_) fun _ _ z => z)
  obtain ⟨z, H', I', rz, c, rfl, q⟩ := hv
  cases rz
  exact wpAny_truthy_bool ⟨.bl (!c), H', I', rfl, q⟩
/-- ~o, -o -/
def rUnO (C : Addr) (sp : Sp) (E : XK) : V → Hp → VK → Prop := fun x H Q => ∃ a dx fs, x = .ref a ∧ H a = some (.ins C dx fs) ∧ sp [x] H Q E
theorem un_invO (S : Spec1 X.K C "__invert__" f) (F : FnOk X.prog X.w X.K X.mg X.base CX k f fd ps sp) (hr : Room k X.A) (hb : Binds X.K fd ps []) (hx : Passes CX X E) : UnR X (unaryOp .Invert) (rUnO C sp E) := by
  intro pins s σ H x v Q I rx h
  obtain ⟨a, dx, fs, rfl, ha, h⟩ := h
  cases rx
  obtain ⟨ox, od, J⟩ := inst_at I ha
  obtain ⟨m, hF⟩ := I.fr
  exact PySem.W.ksp_inv hF I.ok.mod.kin J S.at_ S.fn (run_sub (dvs := []) (vs := [.ref a]) F ⟨hr, rfl⟩ hb .nil hx I (.cons rfl .nil) h)
theorem un_negO (S : Spec1 X.K C "__neg__" f) (F : FnOk X.prog X.w X.K X.mg X.base CX k f fd ps sp) (hr : Room k X.A) (hb : Binds X.K fd ps []) (hx : Passes CX X E) : UnR X (unaryOp .USub) (rUnO C sp E) := by
  intro pins s σ H x v Q I rx h
  obtain ⟨a, dx, fs, rfl, ha, h⟩ := h
  cases rx
  obtain ⟨ox, od, J⟩ := inst_at I ha
  obtain ⟨m, hF⟩ := I.fr
  exact PySem.W.ksp_neg hF I.ok.mod.kin J S.at_ S.fn (run_sub (dvs := []) (vs := [.ref a]) F ⟨hr, rfl⟩ hb .nil hx I (.cons rfl .nil) h)
end
end WB
/-! rules in one form: texts as lists of codes -/
namespace WB
open PySem PySem.Spec PyProof.Rows L2
/-- a text of these codes -/
def S (l : List Nat) : Str := ⟨l.toArray⟩
theorem S_cps (l : List Nat) : (S l).cps.toList = l := by simp [S]
theorem S_len (l : List Nat) : (S l).length = l.length := by simp [S, Str.length]
theorem S_app (a b : List Nat) : S a ++ S b = S (a ++ b) := by
  show Str.mk (a.toArray ++ b.toArray) = S (a ++ b)
  simp [S]
theorem S_inj {a b : List Nat} (h : S a = S b) : a = b := by
  have := congrArg (fun z : Str => z.cps.toList) h
  simpa [S] using this
theorem S_of (z : Str) : z = S z.cps.toList := by
  cases z
  simp [S]
def rAddI : R2 := rI0 fun i j => .int (i + j)
def rSubI : R2 := rI0 fun i j => .int (i - j)
def rMulI : R2 := rI CMul fun i j => .int (i * j)
def rDivI : R2 := rI CDiv fun i j => .int (i / j)
def rModI : R2 := rI (fun _ j => 0 < j) fun i j => .int (i % j)
def rPowI : R2 := rI CPow fun i j => .int (i ^ j.toNat)
def rLtI : R2 := rI0 fun i j => .bl (decide (i < j))
def rLeI : R2 := rI0 fun i j => .bl (decide (i ≤ j))
def rGtI : R2 := rI0 fun i j => .bl (decide (j < i))
def rGeI : R2 := rI0 fun i j => .bl (decide (j ≤ i))
def rNegI : V → Hp → VK → Prop := rU fun i => .int (-i)
def rLenV (K : PySem.W.Frag) : List V → Hp → VK → Prop := fun xs H Q => ∃ x n, xs = [x] ∧ LenV K x H n ∧ Q (.int n) H
def rAbsI : List V → Hp → VK → Prop := fun xs H Q => ∃ i, xs = [.int i] ∧ Q (.int (if i < 0 then -i else i)) H
def rIntI : List V → Hp → VK → Prop := fun xs H Q => (∃ i, xs = [.int i] ∧ Q (.int i) H) ∨ ∃ k, xs = [.bl k] ∧ Q (.int (if k then 1 else 0)) H
def rMin2 : List V → Hp → VK → Prop := fun xs H Q => ∃ i j, xs = [.int i, .int j] ∧ Q (.int (if j < i then j else i)) H
def rMax2 : List V → Hp → VK → Prop := fun xs H Q => ∃ i j, xs = [.int i, .int j] ∧ Q (.int (if j > i then j else i)) H
def rDivmod : List V → Hp → VK → Prop := fun xs H Q => ∃ i j, xs = [.int i, .int j] ∧ CDivP i j ∧ ∀ p, H p = none → Q (.ref p) (upd H p (.tup [.int (i / j), .int (i % j)]))
def rInSg : R2 := fun x y H Q => ∃ (c : Nat) (z : Str), x = .str ⟨#[c]⟩ ∧ y = .str z ∧ Q (.bl (decide (c ∈ z.cps.toList))) H
def rNotInSg : R2 := fun x y H Q => ∃ (c : Nat) (z : Str), x = .str ⟨#[c]⟩ ∧ y = .str z ∧ Q (.bl (!decide (c ∈ z.cps.toList))) H
def rIsN1 : R2 := fun x y H Q => y = .non ∧ Q (.bl (decide (x = .non))) H
def rNotN1 : R2 := fun x y H Q => y = .non ∧ Q (.bl (!decide (x = .non))) H
def rStrS : List V → Hp → VK → Prop := fun xs H Q => ∃ a, xs = [.str a] ∧ Q (.str a) H
def rListOf (K : PySem.W.Frag) : List V → Hp → VK → Prop := fun xs H Q => ∃ p ys, xs = [.ref p] ∧ (SqL K H p ys ∨ SqT K H p ys) ∧ ∀ l, H l = none → Q (.ref l) (upd H l (.lst ys))
def rJoin (K : PySem.W.Frag) : V → List V → Hp → VK → Prop := fun x xs H Q => ∃ a p, ∃ ys : List Str, x = .str a ∧ xs = [.ref p] ∧ (SqL K H p (ys.map V.str) ∨ SqT K H p (ys.map V.str)) ∧
      (ys.map (·.length)).sum + ys.length * a.length ≤ 16777216 ∧ Q (.str (Txt.join a ys)) H
section
variable {X : Cx}
theorem pe_globI {x : Str} {i : Int} {pos : Pos} (hg : Gl X x) (hm : ∃ t, X.mg x = some (.int i t)) (hd : (x == ("__debug__" : Str)) = false := by decide) : PE X (.Name x pos) (tC (.int i)) := by
  obtain ⟨t, h⟩ := hm
  exact pe_glob hg h ⟨t, rfl⟩ hd
theorem pe_globS {x z : Str} {pos : Pos} (hg : Gl X x) (hm : ∃ t, X.mg x = some (.str z t)) (hd : (x == ("__debug__" : Str)) = false := by decide) : PE X (.Name x pos) (tC (.str z)) := by
  obtain ⟨t, h⟩ := hm
  exact pe_glob hg h ⟨t, rfl⟩ hd
/-- s + t -/
def rAddS : R2 := fun x y H Q => ∃ a b, x = .str (S a) ∧ y = .str (S b) ∧ a.length + b.length ≤ sizeLine ∧ Q (.str (S (a ++ b))) H
theorem op_addS : OpR X (binaryOp .Add) rAddS := by
  intro pins s σ H x y v u Q I rx ry h
  obtain ⟨a, b, rfl, rfl, hl, q⟩ := h
  exact op_add_str pins s σ H _ _ v u Q I rx ry ⟨_, _, rfl, rfl, by rw [S_len, S_len]; exact hl, by rw [S_app]; exact q⟩
/-- s * k -/
def rMulS : R2 := fun x y H Q => ∃ (a : List Nat) (k : Nat), x = .str (S a) ∧ y = .int k ∧ k ≤ 100000 ∧ a.length * k ≤ 100000 ∧ Q (.str (S (List.replicate k a).flatten)) H
theorem fold_app (a : Array Nat) : ∀ (k : Nat) (b : Array Nat), ((List.replicate k a).foldl (· ++ ·) b).toList = b.toList ++ (List.replicate k a.toList).flatten
  | 0, b => by simp
  | k + 1, b => by
    rw [List.replicate_succ, List.foldl_cons, fold_app a k, List.replicate_succ]
    simp
theorem op_mulS : OpR X (binaryOp .Mult) rMulS := by
  intro pins s σ H x y v u Q I rx ry h
  obtain ⟨a, k, rfl, rfl, hk, hl, q⟩ := h
  obtain ⟨t, rfl⟩ := rx
  obtain ⟨t', rfl⟩ := ry
  have b1 : decide ((k : Int) < -(2 ^ 63 : Int)) = false := decide_eq_false (by omega)
  have b2 : decide ((k : Int) ≥ 2 ^ 63) = false := decide_eq_false (by omega)
  refine PySem.P.mul_str (by rw [b1, b2]; rfl) (fun h1 _ => ?_) (fun h1 _ => ?_) ?_
  · have h2 : (1 : Int) ≤ k := by omega
    have : ((S a).length : Int) * k ≤ 2 ^ 63 - 1 := by
      rw [S_len]
      have h4 : ((a.length * k : Nat) : Int) ≤ ((100000 : Nat) : Int) := Int.ofNat_le.mpr hl
      rw [Int.natCast_mul] at h4
      generalize (a.length : Int) * (k : Int) = z at *
      omega
    intro hc
    have h3 : ((S a).length : Int) ≤ (2 ^ 63 - 1) / (k : Int) := (Int.le_ediv_iff_mul_le (by omega)).mpr this
    omega
  · show PySem.Builtin.Str.tooLong ((S a).length * (k : Int).toNat) = false
    rw [S_len, Int.toNat_natCast]
    have : a.length * k ≤ sizeLine := Nat.le_trans hl (by decide)
    unfold PySem.Builtin.Str.tooLong
    simpa using this
  · by_cases h0 : (k : Int) < 1
    · have e : k = 0 := by omega
      subst e
      rw [if_pos h0]
      exact ⟨by decide, .str Str.empty, H, I.tok _, ⟨_, rfl⟩, q⟩
    · rw [if_neg h0]
      by_cases h1 : ((k : Int) == 1 || (S a).length == 0) = true
      · rw [if_pos h1]
        have e : (List.replicate k a).flatten = a := by
          rw [Bool.or_eq_true] at h1
          rcases h1 with h1 | h1
          · have e : k = 1 := by have := beq_iff_eq.mp h1; omega
            subst e
            simp
          · have e : a = [] := by
              have := beq_iff_eq.mp h1
              rw [S_len] at this
              exact List.length_eq_zero_iff.mp this
            subst e
            simp
        rw [e] at q
        exact ⟨.str (S a), H, I, ⟨_, rfl⟩, q⟩
      · rw [if_neg h1]
        have e : (⟨(List.replicate (k : Int).toNat (S a).cps).foldl (· ++ ·) #[]⟩ : Str) = S (List.replicate k a).flatten := by
          rw [S_of ⟨_⟩, fold_app]
          simp [S_cps]
        rw [e]
        refine ⟨?_, .str _, H, I.tok _, ⟨_, rfl⟩, q⟩
        rw [S_len]
        have : (List.replicate k a).flatten.length = a.length * k := by simp [Nat.mul_comm]
        rw [this]
        exact Nat.le_trans hl (by decide)
end
end WB
namespace WB
open PySem PySem.Spec PyProof.Rows L2
/-- the least of x :: xs -/
def minL (x : List Nat) (xs : List (List Nat)) : List Nat := xs.foldl (fun a y => if decide (y < a) = true then y else a) x
abbrev vS (l : List Nat) : V := .str (S l)
def rMinS (K : PySem.W.Frag) : List V → Hp → VK → Prop := fun vs H Q => ∃ (a : Addr) (x : List Nat) (xs : List (List Nat)), vs = [.ref a] ∧ SqL K H a ((x :: xs).map vS) ∧ Q (vS (minL x xs)) H
section
variable {X : Cx}
theorem minOf_S : ∀ (xs : List (List Nat)) (x : List Nat), PySem.W.minOf (S x) (xs.map S) = S (minL x xs)
  | [], x => rfl
  | y :: ys, x => by
    show PySem.W.minOf (if PySem.W.DatumOrd.lt (S y) (S x) = true then S y else S x) (ys.map S) = S (minL (if decide (y < x) = true then y else x) ys)
    have e : PySem.W.DatumOrd.lt (S y) (S x) = decide (y < x) := by
      show decide ((S y).cps.toList < (S x).cps.toList) = decide (y < x)
      rw [S_cps, S_cps]
    rw [e]
    by_cases h : decide (y < x) = true
    · rw [if_pos h, if_pos h]; exact minOf_S ys y
    · rw [if_neg h, if_neg h]; exact minOf_S ys x
theorem cr_minS (hc : X.calm = true) (hu : X.A.units + 64 < cLine) : CallR X (.builtin "min") (rMinS X.K) := by
  intro pins s σ H vs us Q I r h
  obtain ⟨a, x, xs, rfl, hs, q⟩ := h
  obtain ⟨its, rv, hl, _⟩ := I.list hs
  rw [Vals.ref1 r]
  have hst : StrsAre its ((x :: xs).map S) := by
    have e : ((x :: xs).map vS) = (((x :: xs).map S).map V.str) := by rw [List.map_map]; rfl
    rw [e] at rv
    exact strsAre_of rv
  refine PySem.W.min_list_datum (α := Str) (x := S x) (xs := xs.map S) (I.ok.hd hc) hl.isList (by
    have := PySem.W.HoldAll.of_strs (h := s.heap) hst
    simpa using this) ?_ fun i v h' tk hv hh hk => ?_
  · show X.A.units + 1 + PySem.W.Datum.depth Str < cLine
    have : PySem.W.Datum.depth Str = 0 := rfl
    omega
  · rw [minOf_S] at hh
    obtain ⟨bs, rd⟩ := hh
    have rd : Reads h' v (.str (S (minL x xs))) bs := rd
    cases rd
    exact ⟨.str _, H, I.kept hk, ⟨_, rfl⟩, q⟩
/-- s[::-1] -/
def tRevS (te : TE) : TE := fun σ H Q => te σ H fun x H1 => ∃ l : List Nat, x = vS l ∧ l.length ≤ sizeLine ∧ Q (vS l.reverse) H1
theorem rev_made (l : List Nat) (u : Tok) : Txt.sliceBy (S l) none none (-1, u) = S l.reverse := by
  rw [S_of (Txt.sliceBy (S l) none none (-1, u)), step_rev_list]
  congr 1
  rw [S_len]
  apply List.ext_getElem
  · simp
  · intro i h1 h2
    have h3 : i < l.length := by simpa using h1
    simp only [List.getElem_map, List.getElem_range, List.getElem_reverse]
    have e : (S l).cps = l.toArray := rfl
    rw [e, Array.getD_eq_getD_getElem?]
    simp [show l.length - 1 - i < l.length by omega]
theorem pe_revS {e : Expr} {te : TE} {k : Nat} {p1 p2 p3 pos : Pos} (he : PE X e te) : PE X (.Subscript e (.Slice none none (some (.UnaryOp .USub (.Constant (.int 1) k p1) p2)) p3) pos) (tRevS te) := by
  refine ⟨fun pins s σ H Q I h => ?_⟩
  refine Subscript_ (thn (he.run pins s σ H _ I h) fun v s1 ⟨x, H1, I1, r1, q1⟩ => ?_)
  obtain ⟨l, ex, hz, q⟩ := q1
  subst ex
  obtain ⟨t, rfl⟩ := r1
  have hst : PO X (some (.UnaryOp .USub (.Constant (.int 1) k p1) p2)) (tPart (tUn (rU fun i => .int (-i)) (tC (.int 1)))) := po_some (pe_un un_neg pe_int)
  refine wpAny_Slice (thn (po_none.run pins s1 σ H1 (fun o H2 => o = none ∧ H2 = H1) I1 ⟨rfl, rfl⟩) fun vl s2 ⟨lo, H2, I2, pl, el, e2⟩ => ?_)
  subst el e2
  refine thn (po_none.run pins s2 σ H2 (fun o H3 => o = none ∧ H3 = H2) I2 ⟨rfl, rfl⟩) fun vu s3 ⟨u, H3, I3, pu, eu, e3⟩ => ?_
  subst eu e3
  refine thn (hst.run pins s3 σ H3 (fun o H4 => o = some (-1) ∧ H4 = H3) I3 ⟨1, rfl, -1, rfl, rfl, rfl⟩) fun vs s4 ⟨o, H4, I4, ps, eo, e4⟩ => ?_
  subst eo e4
  have I5 : Inv X pins σ H4 { s4 with heap := s4.heap.push { cls := .type "slice", data := .fields #[vl, vu, vs] } } := I4.kept (t' := s4.toks) fun b ob q => Heap.get?_push_of_some _ q
  show wpAny (model X.prog X.w) X.A (subscriptTail e (.Slice none none (some (.UnaryOp .USub (.Constant (.int 1) k p1) p2)) p3) (.str (S l) t) (.ref s4.heap.objs.size)) (EP X pins σ Q) X.xe { s4 with heap := s4.heap.push { cls := .type "slice", data := .fields #[vl, vu, vs] } }
  obtain ⟨l1, rfl, e1⟩ := IsPart.raw pl
  obtain ⟨u1, rfl, e2⟩ := IsPart.raw pu
  obtain ⟨t1, rfl, e3⟩ := IsPart.raw ps
  cases l1 with
  | some z => cases e1
  | none =>
  cases u1 with
  | some z => cases e2
  | none =>
  cases t1 with
  | none => cases e3
  | some z =>
  obtain ⟨zi, zt⟩ := z
  have ez : zi = -1 := by simpa using e3
  subst ez
  refine tail_any (ops := [.str (S l) t, .ref s4.heap.objs.size]) (typeIs_str _ _ _) (F.slot_str_getitem.lookup) ?_ (by with_unfolding_all rfl)
  refine wpAny_getItem_str_slice (l := none) (u := none) (st := some (-1, zt)) (Heap.IsSliceOf.new _ _ _ _) rfl ?_
  have e5 : sliceMade (S l) t none none (some (-1, zt)) = Made.str (Txt.sliceBy (S l) none none (-1, zt)) := by
    rfl
  rw [e5, rev_made]
  refine ⟨?_, vS l.reverse, H4, I5.tok _, ⟨_, rfl⟩, q⟩
  rw [S_len, List.length_reverse]
  exact hz
variable {CX : CXT} {k : Nat} {f C : Addr} {fd : FuncData} {ps : List Str} {sp : Sp} {E : XK}
/-- o op y by the own method of the left -/
def rBinO (C : Addr) (sp : Sp) (E : XK) : R2 := fun x y H Q => ∃ a dx fs, x = .ref a ∧ H a = some (.ins C dx fs) ∧ (∃ b dy gs, y = .ref b ∧ H b = some (.ins C dy gs)) ∧ sp [x, y] H Q E
def rBinI (C : Addr) (sp : Sp) (E : XK) : R2 := fun x y H Q => ∃ a dx fs, x = .ref a ∧ H a = some (.ins C dx fs) ∧ (∃ i, y = .int i) ∧ sp [x, y] H Q E
theorem cmpBack {pins : List (Addr × Obj)} {σ : L2.St} {Q : VK} {v : Value} {s' : Shared} (h : EP X pins σ Q v s') : PySem.W.CmpBack (EP X pins σ Q) v s' := by
  obtain ⟨z, H', I', rz, q⟩ := h
  cases z with
  | non => cases rz; exact ⟨.non, H', I', rfl, q⟩
  | bl b => cases rz; exact ⟨.bl b, H', I', rfl, q⟩
  | int i => obtain ⟨t, rfl⟩ := rz; exact ⟨.int i, H', I', ⟨t, rfl⟩, q⟩
  | str i => obtain ⟨t, rfl⟩ := rz; exact ⟨.str i, H', I', ⟨t, rfl⟩, q⟩
  | byt i => obtain ⟨t, rfl⟩ := rz; exact ⟨.byt i, H', I', ⟨t, rfl⟩, q⟩
  | flt i => obtain ⟨t, rfl⟩ := rz; exact ⟨.flt i, H', I', ⟨t, rfl⟩, q⟩
  | ref a => cases rz; exact ⟨.ref a, H', I', rfl, q⟩
  | ty n => cases rz; exact ⟨.ty n, H', I', rfl, q⟩
theorem op_binO_same {op : Operator} (S1 : Spec1 X.K C (PySem.dunder op.info.2) f) (sf : PySem.W.selfFirst X.K C = true) (F : FnOk X.prog X.w X.K X.mg X.base CX k f fd ps sp) (hr : Room k X.A) (hb : Binds X.K fd ps []) (hx : Passes CX X E) : OpR X (binaryOp op) (rBinO C sp E) := by
  intro pins s σ H x y v u Q I rx ry h
  obtain ⟨a, dx, fs, rfl, ha, ⟨b, dy, gs, rfl, hb'⟩, h⟩ := h
  cases rx
  cases ry
  obtain ⟨ox, od, J⟩ := inst_at I ha
  obtain ⟨ox', od', J'⟩ := inst_at I hb'
  obtain ⟨m, hF⟩ := I.fr
  exact PySem.W.binop_K hF I.ok.mod.kin J J'.type sf S1.at_ S1.fn (wpAny_mono (run_sub (dvs := []) (vs := [.ref a, .ref b]) F ⟨hr, rfl⟩ hb .nil hx I (.cons rfl (.cons rfl .nil)) h) (fun v s' hv => cmpBack hv) fun _ _ z => z)
/-- what is asked of the class and the int's type -/
structure BinT (K : PySem.W.Frag) (C : Addr) (nm T : String) (f : Addr) : Prop where
  sp : Spec1 K C (PySem.dunder nm) f
  sf : PySem.W.selfFirst K C = true
  rc : PySem.W.findIn K (.ref C) (dunderR nm) = some none
  h1 : ∃ fo, PySem.W.findIn K (.type T) (PySem.dunder nm) = some fo
  h2 : ∃ ro, PySem.W.findIn K (.type T) (dunderR nm) = some ro
  sub : PySem.W.subIn K (.type T) (.ref C) = some false
theorem op_binO_int {op : Operator} (S1 : BinT X.K C op.info.2 "int" f) (F : FnOk X.prog X.w X.K X.mg X.base CX k f fd ps sp) (hr : Room k X.A) (hb : Binds X.K fd ps []) (hx : Passes CX X E) : OpR X (binaryOp op) (rBinI C sp E) := by
  intro pins s σ H x y v u Q I rx ry h
  obtain ⟨a, dx, fs, rfl, ha, ⟨i, rfl⟩, h⟩ := h
  cases rx
  obtain ⟨t, rfl⟩ := ry
  obtain ⟨ox, od, J⟩ := inst_at I ha
  obtain ⟨m, hF⟩ := I.fr
  obtain ⟨fo, h1⟩ := S1.h1
  obtain ⟨ro, h2⟩ := S1.h2
  exact PySem.W.ksp_binT (T := "int") hF I.ok.mod.kin J rfl S1.sf S1.sp.at_ S1.sp.fn S1.rc (.inl rfl) h1 h2 S1.sub (wpAny_mono (run_sub (dvs := []) (vs := [.ref a, .int i]) F ⟨hr, rfl⟩ hb .nil hx I (.cons rfl (.cons ⟨t, rfl⟩ .nil)) h) (fun v s' hv => cmpBack hv) fun _ _ z => z)
end
end WB
/-! stepping through readings: one lemma a form; the heap is known by what stands in it -/
namespace WB
open PySem PySem.Spec PyProof.Rows L2
abbrev St := L2.St
/-- all that stood stands, but for the objects at m -/
def Ex (m : List Addr) (H H' : Hp) : Prop := ∀ b o, b ∉ m → H b = some o → H' b = some o
section
variable {m m' : List Addr} {H H' H1 H2 : Hp} {a p : Addr} {o u : HO} {K : PySem.W.Frag} {xs : List V}
theorem Ex.rfl : Ex m H H := fun _ _ _ h => h
theorem Ex.trans (a : Ex m H H1) (b : Ex m H1 H2) : Ex m H H2 := fun x o n h => b x o n (a x o n h)
theorem Ex.snoc (b : Ex m H1 H2) (a : Ex m H H1) : Ex m H H2 := a.trans b
theorem Ex.wide (e : Ex [] H H') : Ex m H H' := fun b o _ h => e b o (by simp) h
theorem Ex.snocW (b : Ex [] H1 H2) (a : Ex m H H1) : Ex m H H2 := a.trans b.wide
theorem Ex.new (h : H p = none) : Ex m H (upd H p o) := fun a u _ e => by rw [upd_ne (ne_of_none e h)]; exact e
theorem Ex.put (hp : p ∈ m) : Ex m H (upd H p o) := fun a u n e => by rw [upd_ne (fun z => n (by rw [z]; exact hp))]; exact e
theorem Ex.get (e : Ex m H H') (n : a ∉ m) (h : H a = some o) : H' a = some o := e a o n h
theorem Ex.get0 (e : Ex [] H H') (h : H a = some o) : H' a = some o := e a o (by simp) h
theorem Ex.rd (e : Ex m H H') (n : a ∉ m) (h : Rd H a u) : Rd H' a u := by
  rcases h with h | ⟨ob, h⟩
  · exact .inl (e a _ n h)
  · exact .inr ⟨ob, e a _ n h⟩
theorem Ex.sqL (e : Ex m H H') (n : a ∉ m) (h : SqL K H a xs) : SqL K H' a xs := by
  rcases h with h | h
  · exact .inl (e.rd n h)
  · exact .inr h
theorem Ex.sqT (e : Ex m H H') (n : a ∉ m) (h : SqT K H a xs) : SqT K H' a xs := by
  rcases h with h | h
  · exact .inl (e.rd n h)
  · exact .inr h
theorem Ex.free (e : Ex [] H H') (h : H' p = none) : H p = none := by
  cases q : H p with
  | none => rfl
  | some o => rw [e p o (by simp) q] at h; cases h
end
/-! ### expressions -/
/-- l so many times -/
def rep (k : Nat) (l : List Nat) : List Nat := (List.replicate k l).flatten
def FldG (K : PySem.W.Frag) (f : Str) (x : V) (H : Hp) (Q : VK) : Prop := ∃ a C dx fs v, x = .ref a ∧ H a = some (.ins C dx fs) ∧ Cls K C ∧ NoAttr K C f ∧ fs.lookup f = some v ∧ Q v H
def PropG (C : Addr) (sp : Sp) (dvs : List V) (E : XK) (x : V) (H : Hp) (Q : VK) : Prop := ∃ a dx fs, x = .ref a ∧ H a = some (.ins C dx fs) ∧ sp (.ref a :: dvs) H Q E
def MakeG (C : Addr) (sp : Sp) (dvs : List V) (E : XK) (vs : List V) (H1 : Hp) (Q : VK) : Prop := ∀ x dx, H1 x = none → H1 dx = none → dx ≠ x → sp (.ref x :: (vs ++ dvs)) (upd (upd H1 dx (.own x)) x (.ins C dx [])) (fun v H2 => v = .non ∧ Q (.ref x) H2) E
def MethG (C : Addr) (m : Str) (sp : Sp) (dvs : List V) (E : XK) (t : TA) (σ : St) (x : V) (H1 : Hp) (Q : VK) : Prop := ∃ a dx fs, x = .ref a ∧ H1 a = some (.ins C dx fs) ∧ fs.lookup m = none ∧ t σ H1 fun vs H2 => sp (x :: (vs ++ dvs)) H2 Q E
def RevG (x : V) (H : Hp) (Q : VK) : Prop := ∃ l : List Nat, x = vS l ∧ l.length ≤ sizeLine ∧ Q (vS l.reverse) H
def SetG (K : PySem.W.Frag) (f : Str) (y x : V) (H : Hp) (R : Hp → Prop) : Prop := ∃ a C dx fs, x = .ref a ∧ H a = some (.ins C dx fs) ∧ Cls K C ∧ NoAttr K C f ∧ fs.length < 1000 ∧ R (upd H a (.ins C dx (putF f y fs)))
/-- a new object -/
def Al (o : HO) (n : Nat) (H : Hp) (Q : VK) : Prop := n ≤ sizeLine ∧ ∀ p, H p = none → Q (.ref p) (upd H p o)
section
variable {σ : St} {H : Hp} {Q : VK} {ta tb tc te : TE} {t u : TT} {tr : TA} {v x y : V} {r r' : R2} {i : Nat} {K : PySem.W.Frag} {R : Bool → Hp → Prop} {A B : Prop}
theorem s_var (h : σ[i]? = some (some v)) (k : Q v H) : tVar i σ H Q := ⟨v, h, k⟩
theorem s_c (k : Q v H) : tC v σ H Q := k
theorem s_cS {z : Str} {l : List Nat} (e : z = S l) (k : Q (vS l) H) : tC (.str z) σ H Q := by rw [e]; exact k
theorem s_op (k : ta σ H fun x H1 => tb σ H1 fun y H2 => r x y H2 Q) : tOp r ta tb σ H Q := k
theorem s_un {r : V → Hp → VK → Prop} (k : ta σ H fun x H1 => r x H1 Q) : tUn r ta σ H Q := k
theorem s_cb {r : List V → Hp → VK → Prop} (k : tr σ H fun vs H1 => r vs H1 Q) : tCB r tr σ H Q := k
theorem s_nil {R : List V → Hp → Prop} (k : R [] H) : tNil σ H R := k
theorem s_cons {R : List V → Hp → Prop} (k : ta σ H fun x H1 => tr σ H1 fun xs H2 => R (x :: xs) H2) : tCons ta tr σ H R := k
theorem s_call {sp : Sp} {dvs : List V} {E : XK} (k : tr σ H fun vs H1 => sp (vs ++ dvs) H1 Q E) : tCall sp dvs E tr σ H Q := k
theorem s_tup (k : tr σ H fun xs H1 => Al (.tup xs) xs.length H1 Q) : tTup tr σ H Q := k
theorem s_lst (k : tr σ H fun xs H1 => Al (.lst xs) xs.length H1 Q) : tLst tr σ H Q := k
theorem s_alloc {n : Nat} {o : HO} (h : n ≤ sizeLine) (k : ∀ p H2, H p = none → Ex [] H H2 → H2 p = some o → Q (.ref p) H2) : Al o n H Q :=
  ⟨h, fun p hp => k p _ hp (Ex.new hp) upd_same⟩
theorem s_new {o : HO} (k : ∀ p H2, H p = none → Ex [] H H2 → H2 p = some o → Q (.ref p) H2) : ∀ p, H p = none → Q (.ref p) (upd H p o) :=
  fun p hp => k p _ hp (Ex.new hp) upd_same
theorem s_not (k : t σ H fun c H1 => R (!c) H1) : tNot t σ H R := k
theorem s_and (k : t σ H fun c H1 => if c = true then u σ H1 R else R false H1) : tAnd t u σ H R := k
theorem s_or (k : t σ H fun c H1 => if c = true then R true H1 else u σ H1 R) : tOr t u σ H R := k
theorem s_test (k : te σ H fun x H' => ∃ k, x = .bl k ∧ R k H') : tTest te σ H R := k
theorem s_tB (k : te σ H fun x H' => ∃ k, x = .bl k ∧ R k H') : tB te σ H R := k
theorem s_bl {b : Bool} (k : R b H) : ∃ c, V.bl b = .bl c ∧ R c H := ⟨b, rfl, k⟩
theorem s_blQ {b : Bool} {P : Bool → Prop} (k : P b) : ∃ c, V.bl b = .bl c ∧ P c := ⟨b, rfl, k⟩
theorem s_andV (k : ta σ H fun x H1 => ∃ c, x = .bl c ∧ if c = true then tb σ H1 Q else Q (.bl false) H1) : tAndV ta tb σ H Q := k
theorem s_orV (k : ta σ H fun x H1 => ∃ c, x = .bl c ∧ if c = true then Q (.bl true) H1 else tb σ H1 Q) : tOrV ta tb σ H Q := k
theorem s_notV (k : ta σ H fun x H1 => ∃ c, x = .bl c ∧ Q (.bl (!c)) H1) : tNotV ta σ H Q := k
theorem s_ifE (k : t σ H fun c H1 => if c = true then ta σ H1 Q else tb σ H1 Q) : tIf t ta tb σ H Q := k
theorem s_yes (k : R true H) : tYes σ H R := k
theorem s_chain (k : ta σ H fun x H1 => tb σ H1 fun y H2 => r x y H2 fun z H3 => ∃ k, z = .bl k ∧ (if k = true then tc σ H3 fun w' H4 => r' y w' H4 Q else Q (.bl false) H3)) : tChain r r' ta tb tc σ H Q := k
theorem s_T {b : Bool} (h : b = true) (k : A) : if b = true then A else B := by rw [if_pos h]; exact k
theorem s_F {b : Bool} (h : b = false) (k : B) : if b = true then A else B := by rw [if_neg (by rw [h]; decide)]; exact k
theorem s_2 {b : Bool} (k1 : b = true → A) (k2 : b = false → B) : if b = true then A else B := by
  cases b with
  | true => exact s_T rfl (k1 rfl)
  | false => exact s_F rfl (k2 rfl)
theorem s_nT (k : B) : if (!true) = true then A else B := s_F rfl k
theorem s_nF (k : A) : if (!false) = true then A else B := s_T rfl k
theorem s_Td {P : Prop} [Decidable P] (h : P) (k : A) : if decide P = true then A else B := s_T (decide_eq_true h) k
theorem s_Fd {P : Prop} [Decidable P] (h : ¬ P) (k : B) : if decide P = true then A else B := s_F (decide_eq_false h) k
theorem s_nTd {P : Prop} [Decidable P] (h : ¬ P) (k : A) : if (!decide P) = true then A else B := s_T (by rw [decide_eq_false h]; rfl) k
theorem s_nFd {P : Prop} [Decidable P] (h : P) (k : B) : if (!decide P) = true then A else B := s_F (by rw [decide_eq_true h]; rfl) k
theorem s_nB {b : Bool} (h : b = true) (k : B) : if (!b) = true then A else B := s_F (by rw [h]; rfl) k
theorem s_nA {b : Bool} (h : b = false) (k : A) : if (!b) = true then A else B := s_T (by rw [h]; rfl) k
/-! operators -/
theorem s_addI {i j : Int} (k : Q (.int (i + j)) H) : rAddI (.int i) (.int j) H Q := ⟨i, j, rfl, rfl, k⟩
theorem s_subI {i j : Int} (k : Q (.int (i - j)) H) : rSubI (.int i) (.int j) H Q := ⟨i, j, rfl, rfl, k⟩
theorem s_mulI {i j : Int} (h : CMul i j) (k : Q (.int (i * j)) H) : rMulI (.int i) (.int j) H Q := ⟨i, j, rfl, rfl, h, k⟩
theorem s_divI {i j : Int} (h : CDiv i j) (k : Q (.int (i / j)) H) : rDivI (.int i) (.int j) H Q := ⟨i, j, rfl, rfl, h, k⟩
theorem s_modI {i j : Int} (h : 0 < j) (k : Q (.int (i % j)) H) : rModI (.int i) (.int j) H Q := ⟨i, j, rfl, rfl, h, k⟩
theorem s_powI {i j : Int} (h : CPow i j) (k : Q (.int (i ^ j.toNat)) H) : rPowI (.int i) (.int j) H Q := ⟨i, j, rfl, rfl, h, k⟩
theorem s_ltI {i j : Int} (k : Q (.bl (decide (i < j))) H) : rLtI (.int i) (.int j) H Q := ⟨i, j, rfl, rfl, k⟩
theorem s_leI {i j : Int} (k : Q (.bl (decide (i ≤ j))) H) : rLeI (.int i) (.int j) H Q := ⟨i, j, rfl, rfl, k⟩
theorem s_gtI {i j : Int} (k : Q (.bl (decide (j < i))) H) : rGtI (.int i) (.int j) H Q := ⟨i, j, rfl, rfl, k⟩
theorem s_geI {i j : Int} (k : Q (.bl (decide (j ≤ i))) H) : rGeI (.int i) (.int j) H Q := ⟨i, j, rfl, rfl, k⟩
theorem s_negI {i : Int} (k : Q (.int (-i)) H) : rNegI (.int i) H Q := ⟨i, rfl, k⟩
theorem s_absI {i : Int} (k : Q (.int (if i < 0 then -i else i)) H) : rAbsI [.int i] H Q := ⟨i, rfl, k⟩
theorem s_intI {i : Int} (k : Q (.int i) H) : rIntI [.int i] H Q := .inl ⟨i, rfl, k⟩
theorem s_min2 {i j : Int} (k : Q (.int (if j < i then j else i)) H) : rMin2 [.int i, .int j] H Q := ⟨i, j, rfl, k⟩
theorem s_max2 {i j : Int} (k : Q (.int (if j > i then j else i)) H) : rMax2 [.int i, .int j] H Q := ⟨i, j, rfl, k⟩
theorem s_addS {a b : List Nat} (h : a.length + b.length ≤ sizeLine) (k : Q (vS (a ++ b)) H) : rAddS (vS a) (vS b) H Q := ⟨a, b, rfl, rfl, h, k⟩
theorem s_mulS {a : List Nat} {n : Int} (h0 : 0 ≤ n) (h1 : n ≤ 100000) (h2 : a.length * n.toNat ≤ 100000) (k : Q (vS (rep n.toNat a)) H) : rMulS (vS a) (.int n) H Q :=
  ⟨a, n.toNat, rfl, by rw [Int.toNat_of_nonneg h0], by omega, h2, k⟩
theorem s_eqI {i j : Int} (k : Q (.bl (decide (i = j))) H) : rEq (.int i) (.int j) H Q := ⟨rfl, by
  have : decide (V.int i = V.int j) = decide (i = j) := by simp
  rw [this]; exact k⟩
theorem s_neI {i j : Int} (k : Q (.bl (!decide (i = j))) H) : rNe (.int i) (.int j) H Q := ⟨rfl, by
  have : decide (V.int i = V.int j) = decide (i = j) := by simp
  rw [this]; exact k⟩
theorem vS_eq {a b : List Nat} : (vS a = vS b) ↔ a = b := ⟨fun h => S_inj (V.str.inj h), fun h => by rw [h]⟩
theorem s_eqS {a b : List Nat} (k : Q (.bl (decide (a = b))) H) : rEq (vS a) (vS b) H Q := ⟨rfl, by
  have : decide (V.str (S a) = V.str (S b)) = decide (a = b) := by simp only [show (V.str (S a) = V.str (S b)) ↔ a = b from vS_eq]
  rw [this]; exact k⟩
theorem s_neS {a b : List Nat} (k : Q (.bl (!decide (a = b))) H) : rNe (vS a) (vS b) H Q := ⟨rfl, by
  have : decide (V.str (S a) = V.str (S b)) = decide (a = b) := by simp only [show (V.str (S a) = V.str (S b)) ↔ a = b from vS_eq]
  rw [this]; exact k⟩
theorem s_inSg {c : Nat} {l : List Nat} (k : Q (.bl (decide (c ∈ l))) H) : rInSg (vS [c]) (vS l) H Q := ⟨c, S l, rfl, rfl, by rw [S_cps]; exact k⟩
theorem s_notInSg {c : Nat} {l : List Nat} (k : Q (.bl (!decide (c ∈ l))) H) : rNotInSg (vS [c]) (vS l) H Q := ⟨c, S l, rfl, rfl, by rw [S_cps]; exact k⟩
theorem s_lenS {l : List Nat} (h : l.length ≤ sizeLine) (k : Q (.int l.length) H) : rLenV K [vS l] H Q := ⟨vS l, l.length, rfl, ⟨by rw [S_len]; exact h, (S_len l).symm⟩, k⟩
theorem s_lenL {a : Addr} {xs : List V} (h : SqL K H a xs) (k : Q (.int xs.length) H) : rLenV K [.ref a] H Q := ⟨_, _, rfl, .inl ⟨xs, h, rfl⟩, k⟩
theorem s_lenT {a : Addr} {xs : List V} (h : SqT K H a xs) (k : Q (.int xs.length) H) : rLenV K [.ref a] H Q := ⟨_, _, rfl, .inr ⟨xs, h, rfl⟩, k⟩
theorem s_isiII {i : Int} (k : Q (.bl true) H) : rIsi K [.int i, .ty "int"] H Q := ⟨_, _, _, _, _, rfl, .ty _, .base (.int _), kit_ty (by decide +kernel), k⟩
theorem s_isiIB {i : Int} (k : Q (.bl false) H) : rIsi K [.int i, .ty "bool"] H Q := ⟨_, _, _, _, _, rfl, .ty _, .base (.int _), kit_ty (by decide +kernel), k⟩
theorem s_isiSS {z : Str} (k : Q (.bl true) H) : rIsi K [.str z, .ty "str"] H Q := ⟨_, _, _, _, _, rfl, .ty _, .base (.str _), kit_ty (by decide +kernel), k⟩
theorem s_all {a : Addr} {bs : List Bool} (h : SqL K H a (bs.map V.bl)) (k : Q (.bl (bs.all id)) H) : rAll K [.ref a] H Q := ⟨a, bs, rfl, h, k⟩
theorem s_cat {a b : Addr} {xs ys : List V} (h1 : H a = some (.lst xs)) (h2 : H b = some (.lst ys)) (hl : xs.length + ys.length ≤ sizeLine) (k : ∀ p H2, H p = none → Ex [] H H2 → H2 p = some (.lst (xs ++ ys)) → Q (.ref p) H2) : rCat (.ref a) (.ref b) H Q := ⟨a, b, xs, ys, rfl, rfl, h1, h2, hl, s_new k⟩
theorem s_divmod {i j : Int} (h : CDivP i j) (k : ∀ p H2, H p = none → Ex [] H H2 → H2 p = some (.tup [.int (i / j), .int (i % j)]) → Q (.ref p) H2) : rDivmod [.int i, .int j] H Q := ⟨i, j, rfl, h, s_new k⟩
theorem s_ixL {a : Addr} {xs : List V} {n : Int} (h : SqL K H a xs) (hi : atI xs n = some v) (k : Q v H) : rIxL K (.ref a) (.int n) H Q := ⟨a, xs, n, v, rfl, rfl, h, hi, k⟩
theorem s_ixT {a : Addr} {xs : List V} {n : Int} (h : SqT K H a xs) (hi : atI xs n = some v) (k : Q v H) : rIxT K (.ref a) (.int n) H Q := ⟨a, xs, n, v, rfl, rfl, h, hi, k⟩
theorem s_ixS {l : List Nat} {n : Int} {c : Nat} (hl : l.length ≤ sizeLine) (hi : atI l n = some c) (k : Q (vS [c]) H) : rIxS (vS l) (.int n) H Q := ⟨S l, n, c, rfl, rfl, by rw [S_len]; exact hl, by rw [S_cps]; exact hi, k⟩
theorem s_minS {a : Addr} {x : List Nat} {xs : List (List Nat)} (h : SqL K H a ((x :: xs).map vS)) (k : Q (vS (minL x xs)) H) : rMinS K [.ref a] H Q := ⟨a, x, xs, rfl, h, k⟩
theorem s_revS (k : te σ H fun x H1 => RevG x H1 Q) : tRevS te σ H Q := k
theorem s_revS1 {l : List Nat} (h : l.length ≤ sizeLine) (k : Q (vS l.reverse) H) : RevG (vS l) H Q := ⟨l, rfl, h, k⟩
/-! slices -/
def cut (l : List Nat) (lo hi : Option Int) : List Nat := (l.drop (HT.sIx l.length 0 lo)).take (HT.sIx l.length l.length hi - HT.sIx l.length 0 lo)
theorem s_sl {r : V → Option Int → Option Int → Hp → VK → Prop} {tl th : TO} (k : te σ H fun x H1 => tl σ H1 fun l H2 => th σ H2 fun u H3 => r x l u H3 Q) : tSl r te tl th σ H Q := k
theorem s_noPart {R : Option Int → Hp → Prop} (k : R none H) : tNoPart σ H R := k
theorem s_part {R : Option Int → Hp → Prop} (k : te σ H fun x H1 => ∃ i, x = .int i ∧ R (some i) H1) : tPart te σ H R := k
theorem s_int1 {n : Int} {P : Int → Prop} (k : P n) : ∃ i, V.int n = .int i ∧ P i := ⟨n, rfl, k⟩
theorem s_slS {l : List Nat} {lo hi : Option Int} (h : l.length ≤ sizeLine) (k : Q (vS (cut l lo hi)) H) : rSlS (vS l) lo hi H Q := ⟨S l, rfl, by rw [S_len]; exact h, by
  have e : cutS (S l) lo hi = S (cut l lo hi) := by
    unfold cutS cut
    rw [S_len, S_cps]
    rfl
  rw [e]
  exact k⟩
theorem s_slL {a : Addr} {xs : List V} {lo hi : Option Int} (h : SqL K H a xs) (k : ∀ p H2, H p = none → Ex [] H H2 → H2 p = some (.lst (cutV xs lo hi)) → Q (.ref p) H2) : rSlL K (.ref a) lo hi H Q := ⟨a, xs, rfl, h, s_new k⟩
theorem cut_from {l : List Nat} {n : Int} (h0 : 0 ≤ n) : cut l (some n) none = l.drop n.toNat := by
  unfold cut
  have e : HT.sIx l.length 0 (some n) = min n.toNat l.length := by
    show (if n < 0 then (n + (l.length : Int)).toNat else min n.toNat l.length) = _
    rw [if_neg (by omega)]
  have e2 : HT.sIx l.length l.length none = l.length := rfl
  rw [e, e2]
  rcases Nat.le_total n.toNat l.length with h | h
  · rw [Nat.min_eq_left h, List.take_of_length_le (by simp)]
  · rw [Nat.min_eq_right h, List.drop_of_length_le h]
    simp
theorem cut_to {l : List Nat} {n : Int} (h0 : 0 ≤ n) : cut l none (some n) = l.take n.toNat := by
  unfold cut
  have e : HT.sIx l.length l.length (some n) = min n.toNat l.length := by
    show (if n < 0 then (n + (l.length : Int)).toNat else min n.toNat l.length) = _
    rw [if_neg (by omega)]
  have e2 : HT.sIx l.length 0 none = 0 := rfl
  rw [e, e2]
  rcases Nat.le_total n.toNat l.length with h | h
  · rw [Nat.min_eq_left h]; simp
  · rw [Nat.min_eq_right h, List.take_of_length_le h]; simp
/-! join -/
theorem s_M1 {r : V → List V → Hp → VK → Prop} (k : ta σ H fun x H1 => (∃ a, x = .str a) ∧ te σ H1 fun y H2 => r x [y] H2 Q) : tM1 r ta te σ H Q := k
theorem s_isStr {z : Str} {B : Prop} (k : B) : (∃ a, V.str z = .str a) ∧ B := ⟨⟨z, rfl⟩, k⟩
theorem joinL_nil : ∀ ls : List (List Nat), TL.joinL [] ls = ls.flatten
  | [] => rfl
  | [p] => by simp [TL.joinL]
  | p :: q :: r => by
    show p ++ ([] ++ TL.joinL [] (q :: r)) = _
    rw [joinL_nil (q :: r)]
    simp
theorem join_empty (ls : List (List Nat)) : Txt.join (S []) (ls.map S) = S ls.flatten := by
  rw [TL.join_eq, S_of (Str.join (S []) (ls.map S))]
  have := TL.tl_join (S []) (ls.map S)
  unfold TL.tl at this
  rw [this, List.map_map]
  have e : ls.map ((fun x : Str => x.cps.toList) ∘ S) = ls := by
    conv => rhs; rw [← List.map_id ls]
    apply List.map_congr_left
    intro z _
    exact S_cps z
  show S (TL.joinL (S []).cps.toList (ls.map ((fun x : Str => x.cps.toList) ∘ S))) = _
  rw [e, S_cps, joinL_nil]
theorem s_join0 {a : Addr} {ls : List (List Nat)} (h : SqL K H a (ls.map vS)) (hz : ls.flatten.length ≤ 16777216) (k : Q (vS ls.flatten) H) : rJoin K (vS []) [.ref a] H Q := by
  refine ⟨S [], a, ls.map S, rfl, rfl, .inl ?_, ?_, ?_⟩
  · rw [List.map_map]; exact h
  · rw [List.map_map]
    have e1 : (ls.map ((fun x : Str => x.length) ∘ S)) = ls.map List.length := by
      apply List.map_congr_left
      intro z _
      exact S_len z
    rw [e1, S_len]
    simpa using hz
  · rw [join_empty]; exact k
/-! instances -/
theorem s_fldE {f : Str} (k : ta σ H fun x H1 => FldG K f x H1 Q) : tFld K ta f σ H Q := k
theorem s_propE {C : Addr} {sp : Sp} {dvs : List V} {E : XK} (k : ta σ H fun x H1 => PropG C sp dvs E x H1 Q) : tProp C sp dvs E ta σ H Q := k
theorem s_makeE {C : Addr} {sp : Sp} {dvs : List V} {E : XK} (k : tr σ H fun vs H1 => MakeG C sp dvs E vs H1 Q) : tMake C sp dvs E tr σ H Q := k
theorem s_methE {C : Addr} {m : Str} {sp : Sp} {dvs : List V} {E : XK} (k : ta σ H fun x H1 => MethG C m sp dvs E tr σ x H1 Q) : tMeth C m sp dvs E ta tr σ H Q := k
end
theorem s_setL {a : Addr} {xs : List V} {j : Nat} {v : V} {H : Hp} {R : Hp → Prop} {n : Int} (h : H a = some (.lst xs)) (hj : ixN xs.length n = some j) (k : ∀ H2, Ex [a] H H2 → H2 a = some (.lst (xs.set j v)) → R H2) : rSetL (.ref a) (.int n) v H R := ⟨a, xs, n, j, rfl, rfl, h, hj, k _ (Ex.put (by simp)) upd_same⟩
theorem s_gSub {ta tb : TE} {t : TSet} {v : V} {σ : St} {H : Hp} {R : St → Hp → Prop} (k : ta σ H fun o H1 => tb σ H1 fun i H2 => t o i v H2 fun H3 => R σ H3) : gSub ta tb t v σ H R := k
theorem s_gTup {K : PySem.W.Frag} {a : Addr} {xs : List V} {n : Nat} {t : TGs} {σ : St} {H : Hp} {R : St → Hp → Prop} (h : SqT K H a xs) (hn : xs.length = n) (k : t xs σ H R) : gTup K n t (.ref a) σ H R := ⟨a, xs, rfl, h, hn, k⟩
theorem s_gLst {K : PySem.W.Frag} {a : Addr} {xs : List V} {n : Nat} {t : TGs} {σ : St} {H : Hp} {R : St → Hp → Prop} (h : SqL K H a xs) (hn : xs.length = n) (k : t xs σ H R) : gLst K n t (.ref a) σ H R := ⟨a, xs, rfl, h, hn, k⟩
theorem s_gCons {t : TG} {u : TGs} {v : V} {r : List V} {σ : St} {H : Hp} {R : St → Hp → Prop} (k : t v σ H fun σ' H' => u r σ' H' R) : gCons t u (v :: r) σ H R := ⟨v, r, rfl, k⟩
theorem s_gNil {σ : St} {H : Hp} {R : St → Hp → Prop} (k : R σ H) : gNil [] σ H R := ⟨rfl, k⟩
/-! ### statements -/
section
variable {n b c : St → Hp → Prop} {rt : VK} {σ : St} {H : Hp} {te : TE} {tt : TT} {t u : TS} {i : Nat} {K : PySem.W.Frag}
theorem s_seq (k : t ⟨u ⟨n, rt, b, c⟩, rt, b, c⟩ σ H) : tSeq t u ⟨n, rt, b, c⟩ σ H := k
theorem s_sfld {ta tv : TE} {f : Str} (k : tv σ H fun y H1 => ta σ H1 fun x H2 => SetG K f y x H2 (n σ)) : sFld K ta tv f ⟨n, rt, b, c⟩ σ H := k
theorem s_next (k : n σ H) : tNext ⟨n, rt, b, c⟩ σ H := k
theorem s_brk (k : b σ H) : tBreak ⟨n, rt, b, c⟩ σ H := k
theorem s_ct (k : c σ H) : tCont ⟨n, rt, b, c⟩ σ H := k
theorem s_asg {g : TG} (k : te σ H fun x H1 => g x σ H1 n) : tAsg te g ⟨n, rt, b, c⟩ σ H := k
theorem s_gName {v : V} {R : St → Hp → Prop} (k : R (σ.set i (some v)) H) : gName i v σ H R := k
theorem s_ret (k : te σ H rt) : tRet te ⟨n, rt, b, c⟩ σ H := k
theorem s_retN (k : rt .non H) : tRetN ⟨n, rt, b, c⟩ σ H := k
theorem s_drop (k : te σ H fun _ H1 => n σ H1) : tDrop te ⟨n, rt, b, c⟩ σ H := k
theorem s_ifS (k : tt σ H fun q H1 => if q = true then t ⟨n, rt, b, c⟩ σ H1 else u ⟨n, rt, b, c⟩ σ H1) : tIfS tt t u ⟨n, rt, b, c⟩ σ H := k
theorem s_par {i j : Nat} {ta : TA} (k : ta σ H fun vs H1 => ∃ v w, vs = [v, w] ∧ n ((σ.set i (some v)).set j (some w)) H1) : tPar i j ta ⟨n, rt, b, c⟩ σ H := k
theorem s_pair {v w : V} {P : V → V → Prop} (k : P v w) : ∃ v' w', [v, w] = [v', w'] ∧ P v' w' := ⟨v, w, rfl, k⟩
end
end WB
namespace WB
open PySem PySem.Spec PyProof.Rows L2
theorem wipe1 (σ : St) (j : Nat) (x : Option V) : wipe ((wipe σ [j]).set j x) [j] = wipe σ [j] := by
  show ((σ.set j none).set j x).set j none = σ.set j none
  rw [List.set_set, List.set_set]
/-- what is asked of a comprehension's turns -/
def LcW (J : It) (g : TG) (tt : TT) (te : TE) (vs : List Nat) (σ : St) (H1 : Hp) (Q : VK) : Prop := ∀ D, H1 D = none → ∃ W : Nat → Nat → Hp → Prop, (∃ m, W 0 m (upd H1 D (.lst []))) ∧ ∀ i m H, W i m H →
  (J.stop i H ∧ Q (.ref D) H) ∨ (J.go i H ∧ ∃ Nx : Hp → Prop, (∀ H', Nx H' → ∃ m', m' < m ∧ W (i + 1) m' H') ∧ ∀ x H', J.yld i H x H' → g x (wipe σ vs) H' fun σ2 H2 => wipe σ2 vs = wipe σ vs ∧ tt σ2 H2 fun b H3 =>
    if b = true then te σ2 H3 fun y H4 => ∃ acc, H4 D = some (.lst acc) ∧ acc.length < sizeLine ∧ Nx (upd H4 D (.lst (acc ++ [y]))) else Nx H3)
theorem s_lc {wi : TI} {g : TG} {tt : TT} {te : TE} {vs : List Nat} {σ : St} {H : Hp} {Q : VK} (k : wi σ H fun J H1 => LcW J g tt te vs σ H1 Q) : tLc wi g tt te vs σ H Q := k
theorem s_rng1 {ta : TA} {σ : St} {H : Hp} {R : It → Hp → Prop} (k : ta σ H fun vs H1 => ∃ j : Int, vs = [.int j] ∧ -(2 ^ 62) ≤ j ∧ j < 2 ^ 62 ∧ R (Itr 0 j.toNat) H1) : iRng1 ta σ H R := k
theorem s_rng1i {j : Int} {C : Int → Prop} (h : -1000000 ≤ j ∧ j ≤ 1000000) (k : C j) : ∃ j' : Int, [V.int j] = [.int j'] ∧ -(2 ^ 62) ≤ j' ∧ j' < 2 ^ 62 ∧ C j' := ⟨j, rfl, by omega, by omega, k⟩
theorem s_rng2 {ta : TA} {σ : St} {H : Hp} {R : It → Hp → Prop} (k : ta σ H fun vs H1 => ∃ i j : Int, vs = [.int i, .int j] ∧ (-(2 ^ 62) ≤ i ∧ i < 2 ^ 62 ∧ -(2 ^ 62) ≤ j ∧ j < 2 ^ 62) ∧ R (Itr i (j - i).toNat) H1) : iRng2 ta σ H R := k
theorem s_rng2i {i j : Int} {C : Int → Int → Prop} (h : -1000000 ≤ i ∧ i ≤ 1000000 ∧ -1000000 ≤ j ∧ j ≤ 1000000) (k : C i j) : ∃ i' j' : Int, [V.int i, V.int j] = [.int i', .int j'] ∧ (-(2 ^ 62) ≤ i' ∧ i' < 2 ^ 62 ∧ -(2 ^ 62) ≤ j' ∧ j' < 2 ^ 62) ∧ C i' j' := ⟨i, j, rfl, by omega, k⟩
theorem s_iStr {te : TE} {σ : St} {H : Hp} {R : It → Hp → Prop} (k : te σ H fun v H1 => ∃ x, v = .str x ∧ R (Its x) H1) : iStr te σ H R := k
theorem s_iStrS {l : List Nat} {C : Str → Prop} (k : C (S l)) : ∃ x, vS l = .str x ∧ C x := ⟨_, rfl, k⟩
theorem s_iList {K : PySem.W.Frag} {te : TE} {σ : St} {H : Hp} {R : It → Hp → Prop} (k : te σ H fun x H1 => ∃ a, x = .ref a ∧ (∃ xs, SqL K H1 a xs) ∧ R (Itl K a) H1) : iList K te σ H R := k
theorem s_iListA {K : PySem.W.Frag} {a : Addr} {xs : List V} {H : Hp} {C : Addr → Prop} (h : SqL K H a xs) (k : C a) : ∃ b, V.ref a = .ref b ∧ (∃ xs, SqL K H b xs) ∧ C b := ⟨a, rfl, ⟨xs, h⟩, k⟩
theorem s_iTup {K : PySem.W.Frag} {te : TE} {σ : St} {H : Hp} {R : It → Hp → Prop} (k : te σ H fun x H1 => ∃ a, x = .ref a ∧ (∃ xs, SqT K H1 a xs) ∧ R (Itt K a) H1) : iTup K te σ H R := k
theorem s_iTupA {K : PySem.W.Frag} {a : Addr} {xs : List V} {H : Hp} {C : Addr → Prop} (h : SqT K H a xs) (k : C a) : ∃ b, V.ref a = .ref b ∧ (∃ xs, SqT K H b xs) ∧ C b := ⟨a, rfl, ⟨xs, h⟩, k⟩
/-- a comprehension: m what may change, R what is known of it, Acc what is known of the list so far -/
theorem lc_run {J : It} {n : Nat} {G : Hp → Prop} {Y : Nat → Hp → V → Hp → Prop} {g : TG} {tt : TT} {te : TE} {vs : List Nat} {σ : St} {H : Hp} {Q : VK} (w : Walk J n G Y) (hn : n ≤ 100000)
    (m : List Addr) (R : Hp → Prop) (Acc : Nat → List V → Hp → Prop) (hm : ∀ a ∈ m, H a ≠ none) (r0 : R H) (a0 : Acc 0 [] H)
    (rU : ∀ H1 D o, D ∉ m → R H1 → R (upd H1 D o)) (aU : ∀ i acc H1 D o, (H1 D = none ∨ ∃ l, H1 D = some (.lst l)) → Acc i acc H1 → Acc i acc (upd H1 D (.lst o)))
    (hG : ∀ H1, Ex m H H1 → G H1)
    (step : ∀ (i : Nat) (acc : List V) (x : V) (H1 H2 : Hp) (C1 : VK) (C0 : Hp → Prop), i < n → Ex m H H1 → R H1 → Acc i acc H1 → Y i H1 x H2 →
      (∀ y H5, Ex m H1 H5 → R H5 → Acc (i + 1) (acc ++ [y]) H5 → C1 y H5) → (∀ H4, Ex m H1 H4 → R H4 → Acc (i + 1) acc H4 → C0 H4) →
      g x (wipe σ vs) H2 fun σ2 H3 => wipe σ2 vs = wipe σ vs ∧ tt σ2 H3 fun b H4 => if b = true then te σ2 H4 C1 else C0 H4)
    (k : ∀ D H' ys, H D = none → Ex m H H' → R H' → H' D = some (.lst ys) → ys.length ≤ n → Acc n ys H' → Q (.ref D) H') : LcW J g tt te vs σ H Q := by
  intro D hD
  have nD : D ∉ m := fun z => hm D z hD
  refine lc_it w (fun i H1 => Ex m H H1 ∧ R H1 ∧ ∃ acc, H1 D = some (.lst acc) ∧ acc.length ≤ i ∧ Acc i acc H1) ⟨Ex.new hD, rU _ _ _ nD r0, [], upd_same, Nat.le_refl _, aU _ _ _ _ _ (.inl hD) a0⟩ (fun i H1 _ h => hG H1 h.1) ?_ ?_
  · rintro i x H1 H2 hi ⟨e, r, acc, hd, hl, ha⟩ hy
    refine step i acc x H1 H2 _ _ hi e r ha hy (fun y H5 e5 r5 a5 => ?_) (fun H4 e4 r4 a4 => ?_)
    · have hd5 : H5 D = some (.lst acc) := e5 D _ nD hd
      refine ⟨acc, hd5, Nat.lt_of_le_of_lt (Nat.le_trans hl (Nat.le_trans (Nat.le_of_lt hi) hn)) (by decide), ?_, rU _ _ _ nD r5, acc ++ [y], upd_same, by rw [List.length_append]; simp; omega, aU _ _ _ _ _ (.inr ⟨acc, hd5⟩) a5⟩
      intro b o nb hb
      rw [upd_ne (ne_of_none hb hD)]
      exact e5 b o nb (e b o nb hb)
    · exact ⟨e.trans e4, r4, acc, e4 D _ nD hd, by omega, a4⟩
  · rintro H1 ⟨e, r, acc, hd, hl, ha⟩
    exact k D H1 acc hD e r hd hl ha
/-- over range, nothing changes: a list of values by the turn -/
theorem lc_mapR {n j : Nat} {lo : Int} {te : TE} {σ : St} {H : Hp} {Q : VK} (hn : n ≤ 100000) (val : Nat → V)
    (h : ∀ (i : Nat) (H1 : Hp) (C : VK), i < n → Ex [] H H1 → (∀ H2, Ex [] H1 H2 → C (val i) H2) → te ((wipe σ [j]).set j (some (.int (lo + i)))) H1 C)
    (k : ∀ D H', H D = none → Ex [] H H' → H' D = some (.lst ((List.range n).map val)) → Q (.ref D) H') : LcW (Itr lo n) (gName j) tYes te [j] σ H Q := by
  refine lc_run walk_range hn [] (fun _ => True) (fun i acc _ => acc = (List.range i).map val) (by simp) trivial rfl (fun _ _ _ _ _ => trivial) (fun _ _ _ _ _ _ h => h) (fun _ _ => trivial) ?_ ?_
  · rintro i acc x H1 H2 C1 C0 hi e _ rfl ⟨rfl, rfl⟩ k1 k0
    refine ⟨wipe1 _ _ _, ?_⟩
    refine s_yes ?_
    refine s_T rfl ?_
    refine (h i H2 C1 hi e fun H5 e5 => k1 _ H5 e5 trivial ?_)
    rw [List.range_succ, List.map_append]
    rfl
  · rintro D H' ys hD e _ hd _ rfl
    exact k D H' hD e hd
/-- over a list, nothing changes -/
theorem lc_mapL {K : PySem.W.Frag} {a : Addr} {xs : List V} {j : Nat} {te : TE} {σ : St} {H : Hp} {Q : VK} (hq : SqL K H a xs) (hn : xs.length ≤ 100000) (val : V → V)
    (h : ∀ (i : Nat) (x : V) (H1 : Hp) (C : VK), xs[i]? = some x → Ex [] H H1 → (∀ H2, Ex [] H1 H2 → C (val x) H2) → te ((wipe σ [j]).set j (some x)) H1 C)
    (k : ∀ D H', H D = none → Ex [] H H' → H' D = some (.lst (xs.map val)) → Q (.ref D) H') : LcW (Itl K a) (gName j) tYes te [j] σ H Q := by
  refine lc_run walk_list hn [] (fun _ => True) (fun i acc _ => acc = (xs.take i).map val) (by simp) trivial (by simp) (fun _ _ _ _ _ => trivial) (fun _ _ _ _ _ _ h => h) (fun H1 e => e.sqL (by simp) hq) ?_ ?_
  · rintro i acc x H1 H2 C1 C0 hi e _ rfl ⟨rfl, hx⟩ k1 k0
    refine ⟨wipe1 _ _ _, ?_⟩
    refine s_yes ?_
    refine s_T rfl ?_
    refine (h i x H2 C1 hx e fun H5 e5 => k1 _ H5 e5 trivial ?_)
    rw [List.take_add_one, hx, List.map_append]
    rfl
  · rintro D H' ys hD e _ hd _ rfl
    rw [List.take_length] at hd
    exact k D H' hD e hd
/-- over a list: each item's value stands in a relation to it -/
theorem lc_relL {K : PySem.W.Frag} {a : Addr} {xs : List V} {j : Nat} {te : TE} {σ : St} {H : Hp} {Q : VK} (hq : SqL K H a xs) (hn : xs.length ≤ 100000) (P : V → V → Hp → Prop)
    (pE : ∀ x y H1 H2, Ex [] H1 H2 → P x y H1 → P x y H2) (pU : ∀ x y H1 D o, (H1 D = none ∨ ∃ l, H1 D = some (.lst l)) → P x y H1 → P x y (upd H1 D (.lst o)))
    (h : ∀ (i : Nat) (x : V) (H1 : Hp) (C : VK), xs[i]? = some x → Ex [] H H1 → (∀ y H2, Ex [] H1 H2 → P x y H2 → C y H2) → te ((wipe σ [j]).set j (some x)) H1 C)
    (k : ∀ D H' ys, H D = none → Ex [] H H' → H' D = some (.lst ys) → ys.length = xs.length → (∀ (i : Nat) x y, xs[i]? = some x → ys[i]? = some y → P x y H') → Q (.ref D) H') : LcW (Itl K a) (gName j) tYes te [j] σ H Q := by
  refine lc_run walk_list hn [] (fun _ => True) (fun i acc H1 => acc.length = i ∧ ∀ (m : Nat) x y, xs[m]? = some x → acc[m]? = some y → P x y H1) (by simp) trivial ⟨rfl, by simp⟩ (fun _ _ _ _ _ => trivial) (fun _ _ _ _ _ hd h => ⟨h.1, fun m x y h1 h2 => pU _ _ _ _ _ hd (h.2 m x y h1 h2)⟩) (fun H1 e => e.sqL (by simp) hq) ?_ ?_
  · rintro i acc x H1 H2 C1 C0 hi e _ ⟨ha, hp⟩ ⟨rfl, hx⟩ k1 k0
    refine ⟨wipe1 _ _ _, ?_⟩
    refine s_yes ?_
    refine s_T rfl ?_
    refine h i x H2 C1 hx e fun y H5 e5 hy => k1 _ H5 e5 trivial ⟨by rw [List.length_append, ha]; rfl, fun m x' y' h1 h2 => ?_⟩
    by_cases hm : m < acc.length
    · rw [List.getElem?_append_left hm] at h2
      exact pE _ _ _ _ e5 (hp m x' y' h1 h2)
    · rw [List.getElem?_append_right (by omega)] at h2
      have : m = i := by
        have := (List.getElem?_eq_some_iff.mp h2).1
        simp at this
        omega
      subst this
      rw [hx] at h1
      cases h1
      rw [ha, Nat.sub_self] at h2
      simp at h2
      subst h2
      exact hy
  · rintro D H' ys hD e _ hd _ ⟨hy, hp⟩
    exact k D H' ys hD e hd hy hp
/-- over a text's signs, nothing changes: those that pass, each by its value -/
theorem lc_mapS {l : List Nat} {j : Nat} {tt : TT} {te : TE} {σ : St} {H : Hp} {Q : VK} (hn : l.length ≤ 100000) (p : Nat → Bool) (val : Nat → V)
    (h : ∀ (c : Nat) (H1 : Hp) (C1 : VK) (C0 : Hp → Prop), c ∈ l → Ex [] H H1 → (∀ H2, Ex [] H1 H2 → p c = true → C1 (val c) H2) → (∀ H2, Ex [] H1 H2 → p c = false → C0 H2) →
      tt ((wipe σ [j]).set j (some (vS [c]))) H1 fun b H2 => if b = true then te ((wipe σ [j]).set j (some (vS [c]))) H2 C1 else C0 H2)
    (k : ∀ D H', H D = none → Ex [] H H' → H' D = some (.lst ((l.filter p).map val)) → Q (.ref D) H') : LcW (Its (S l)) (gName j) tt te [j] σ H Q := by
  have hs : (S l).cps.size = l.length := by simp [S]
  have w := walk_str (z := S l)
  rw [hs] at w
  refine lc_run w hn [] (fun _ => True) (fun i acc _ => acc = ((l.take i).filter p).map val) (by simp) trivial (by simp) (fun _ _ _ _ _ => trivial) (fun _ _ _ _ _ _ h => h) (fun _ _ => trivial) ?_ ?_
  · rintro i acc x H1 H2 C1 C0 hi e _ rfl ⟨rfl, c, hc, rfl⟩ k1 k0
    have hc : l[i]? = some c := by simpa [S] using hc
    refine ⟨wipe1 _ _ _, ?_⟩
    refine h c H2 C1 C0 (List.mem_of_getElem? hc) e (fun H5 e5 hp => k1 _ H5 e5 trivial ?_) (fun H5 e5 hp => k0 H5 e5 trivial ?_)
    · rw [List.take_add_one, hc, List.filter_append, List.map_append]
      simp [hp]
    · rw [List.take_add_one, hc, List.filter_append, List.map_append]
      simp [hp]
  · rintro D H' ys hD e _ hd _ rfl
    rw [← hs] at hd
    have : l.take (S l).cps.size = l := by rw [hs]; exact List.take_length
    rw [this] at hd
    exact k D H' hD e hd
/-- for: n turns -/
def ForW (J : It) (g : TG) (tb : TS) (D : Ends) (σ : St) (H : Hp) : Prop := ∃ W : Nat → Nat → St → Hp → Prop, (∃ m, W 0 m σ H) ∧ ∀ i m σ H, W i m σ H →
  (J.stop i H ∧ D.nx σ H) ∨ (J.go i H ∧ ∃ N : St → Hp → Prop, (∀ σ' H', N σ' H' → ∃ m', m' < m ∧ W (i + 1) m' σ' H') ∧ ∀ x H', J.yld i H x H' → g x σ H' fun σ2 H2 => tb { D with nx := N, ct := N, bk := D.nx } σ2 H2)
theorem s_for {wi : TI} {g : TG} {tb : TS} {n b c : St → Hp → Prop} {rt : VK} {σ : St} {H : Hp} (k : wi σ H fun J H1 => ForW J g tb ⟨n, rt, b, c⟩ σ H1) : tFor wi g tb ⟨n, rt, b, c⟩ σ H := k
theorem for_run {J : It} {m : Nat} {G : Hp → Prop} {Y : Nat → Hp → V → Hp → Prop} {g : TG} {tb : TS} {n b c : St → Hp → Prop} {rt : VK} {σ : St} {H : Hp} (w : Walk J m G Y) (Pv : Nat → St → Hp → Prop) (h0 : Pv 0 σ H) (hG : ∀ i σ H, i ≤ m → Pv i σ H → G H)
    (hs : ∀ i x σ H H', i < m → Pv i σ H → Y i H x H' → g x σ H' fun σ2 H2 => tb ⟨Pv (i + 1), rt, n, Pv (i + 1)⟩ σ2 H2) (hd : ∀ σ H, Pv m σ H → n σ H) : ForW J g tb ⟨n, rt, b, c⟩ σ H :=
  for_it (D := ⟨n, rt, b, c⟩) w Pv h0 hG hs hd
theorem for_rng {lo : Int} {m : Nat} {g : TG} {tb : TS} {n b c : St → Hp → Prop} {rt : VK} {σ : St} {H : Hp} (Pv : Nat → St → Hp → Prop) (h0 : Pv 0 σ H)
    (hs : ∀ (i : Nat) σ H, i < m → Pv i σ H → g (.int (lo + i)) σ H fun σ2 H2 => tb ⟨Pv (i + 1), rt, n, Pv (i + 1)⟩ σ2 H2) (hd : ∀ σ H, Pv m σ H → n σ H) : ForW (Itr lo m) g tb ⟨n, rt, b, c⟩ σ H := by
  refine for_run walk_range Pv h0 (fun _ _ _ _ _ => trivial) ?_ hd
  rintro i x σ H H' hi hp ⟨rfl, rfl⟩
  exact hs i σ _ hi hp
theorem atI_of {α : Type} {xs : List α} {n : Int} {v : α} (h0 : 0 ≤ n) (h : xs[n.toNat]? = some v) : atI xs n = some v := by
  have h1 : n.toNat < xs.length := (List.getElem?_eq_some_iff.mp h).1
  unfold atI ixN
  rw [if_pos h0, if_pos (by omega)]
  exact h
theorem mem_cutV {xs : List V} {lo hi : Option Int} {x : V} (h : x ∈ cutV xs lo hi) : x ∈ xs := List.mem_of_mem_drop (List.mem_of_mem_take h)
end WB
namespace WB
open PySem PySem.Spec PyProof.Rows L2
/-! ### data: lists of texts -/
def dS (l : List Nat) : PyData := .str (S l)
/-- codes of plain signs -/
def plain (l : List Nat) : Prop := ∀ c ∈ l, c < 55296
theorem strOk_S {l : List Nat} (h : plain l) : PyData.strOk (S l) = true := by
  unfold PyData.strOk
  rw [← Array.all_toList, S_cps, List.all_eq_true]
  intro c hc
  have := h c hc
  exact decide_eq_true (by omega)
theorem canLay_strs : ∀ {ls : List (List Nat)}, (∀ l ∈ ls, plain l) → PyData.canLayAll0 (ls.map dS) = true
  | [], _ => by simp [PyData.canLayAll0]
  | l :: ls, h => by
    rw [List.map_cons, PyData.canLayAll0]
    refine Bool.and_eq_true_iff.mpr ⟨?_, canLay_strs fun l hl => h l (List.mem_cons_of_mem _ hl)⟩
    unfold dS
    rw [PyData.canLay0]
    exact strOk_S (h l List.mem_cons_self)
theorem depth_strs : ∀ ls : List (List Nat), PyData.depthAll (ls.map dS) = 0
  | [] => by simp [PyData.depthAll]
  | l :: ls => by
    rw [List.map_cons, PyData.depthAll, depth_strs ls]
    simp [dS, PyData.depth]
theorem shaped_strs {ls : List (List Nat)} (h : ∀ l ∈ ls, plain l) : SeqAt.shaped (.list (ls.map dS)) = true := by
  unfold SeqAt.shaped
  refine Bool.and_eq_true_iff.mpr ⟨?_, decide_eq_true ?_⟩
  · rw [PyData.canLay0]; exact canLay_strs h
  · rw [PyData.depth, depth_strs]; omega
theorem eqv_strs : ∀ ls ms : List (List Nat), PyData.eqvAll (ls.map dS) (ms.map dS) = decide (ls = ms)
  | [], [] => by simp [PyData.eqvAll]
  | [], m :: ms => by simp [PyData.eqvAll]
  | l :: ls, [] => by simp [PyData.eqvAll]
  | l :: ls, m :: ms => by
    rw [List.map_cons, List.map_cons, PyData.eqvAll, eqv_strs ls ms]
    have : PyData.eqv (dS l) (dS m) = decide (l = m) := by
      unfold dS
      rw [PyData.eqv]
      by_cases e : l = m
      · subst e; simp
      · rw [decide_eq_false e]
        exact beq_eq_false_iff_ne.mpr fun z => e (S_inj z)
    rw [this]
    by_cases e : l = m <;> by_cases e2 : ls = ms <;> simp [e, e2]
theorem dp_strs {K : PySem.W.Frag} {H : Hp} : ∀ ls : List (List Nat), DpAll K H (ls.map vS) (ls.map dS)
  | [] => .nil
  | l :: ls => .cons (.str _) (dp_strs ls)
section
variable {K : PySem.W.Frag} {H : Hp} {Q : VK}
theorem s_eqLS {a b : Addr} {ls ms : List (List Nat)} (h1 : SqL K H a (ls.map vS)) (h2 : SqL K H b (ms.map vS)) (p1 : ∀ l ∈ ls, plain l) (p2 : ∀ l ∈ ms, plain l) (k : Q (.bl (decide (ls = ms))) H) : rEqD K (.ref a) (.ref b) H Q := by
  refine ⟨_, _, .lst h1 (dp_strs ls), .lst h2 (dp_strs ms), shaped_strs p1, shaped_strs p2, ?_⟩
  rw [PyData.eqv, eqv_strs]
  exact k
theorem s_neLS {a b : Addr} {ls ms : List (List Nat)} (h1 : SqL K H a (ls.map vS)) (h2 : SqL K H b (ms.map vS)) (p1 : ∀ l ∈ ls, plain l) (p2 : ∀ l ∈ ms, plain l) (k : Q (.bl (!decide (ls = ms))) H) : rNeD K (.ref a) (.ref b) H Q := by
  refine ⟨_, _, .lst h1 (dp_strs ls), .lst h2 (dp_strs ms), shaped_strs p1, shaped_strs p2, ?_⟩
  rw [PyData.eqv, eqv_strs]
  exact k
end
end WB
namespace WB
open PySem PySem.Spec PyProof.Rows L2
/-! ### list of a text -/
def rListS : List V → Hp → VK → Prop := fun xs H Q => ∃ l : List Nat, xs = [vS l] ∧ l.length ≤ sizeLine ∧ ∀ p H2, H p = none → Ex [] H H2 → H2 p = some (.lst (l.map fun c => vS [c])) → Q (.ref p) H2
theorem call_listS {X : Cx} (hc : X.calm = true) : CallR X (.type "list") rListS := by
  intro pins s σ H xs us Q I r h
  obtain ⟨l, rfl, hz, q⟩ := h
  obtain ⟨u, rfl, t, rfl⟩ := vals1 r
  have hs : (S l).cps.size = l.length := by simp [S]
  refine PySem.call_list_str (I.ok.hd hc) (S l) t (fun h' tk acc' c' hkeep hS hacc => ?_) (by rw [hs]; exact hz)
  refine ⟨.ref s.heap.objs.size, upd H s.heap.objs.size (.lst (l.map fun c => vS [c])), I.laid hkeep (Nat.le_refl _) (show ObjOk X.prog X.w _ _ _ (.lst (l.map fun c => vS [c])) from ⟨?_, acc'.toList, c', ?_, ?_⟩), rfl, q _ _ (I.hok.fresh (Nat.le_refl _)) (Ex.new (I.hok.fresh (Nat.le_refl _))) upd_same⟩
  · rw [List.length_map]; exact hz
  · have el : acc'.toList.length = acc'.size := by simp
    refine vals_of_at (by rw [List.length_map, el, hacc.1, hs]) fun j x w h1 h2 => ?_
    obtain ⟨c, u, hcu, rfl⟩ := hacc.2 j w (by rw [← Array.getElem?_toList]; exact h2)
    have hcu : l[j]? = some c := by simpa [S] using hcu
    rw [List.getElem?_map, hcu] at h1
    cases h1
    exact ⟨u, rfl⟩
  · rw [Array.toArray_toList]; exact hS
/-! ### calls by keywords, in the parameters' order -/
structure KBa (K : PySem.W.Frag) (fd : FuncData) (ps : List Str) (n : Nat) (ks : List Str) : Prop where
  to : ∀ (s : Shared) (us ws : List Value), K.In s.heap → us.length = n → ws.length = ks.length → BindsTo s fd ⟨us, ks.zip ws⟩ (ps.zip (us ++ ws))
  len : ps.length = n + ks.length
theorem kba {K : PySem.W.Frag} {x qual : Str} {params : Arguments} {body : List Stmt} {scope : Scope} {kws : List (Str × V)} {f : Addr} {fd : FuncData} {ps : List Str} {n : Nat} {ks : List Str} (F : FunD K x qual params body scope [] kws f fd) (hl : ps.length = n + ks.length)
    (h : ∀ (kV doc pm : Value) (an : Option Addr) (cdv ct : Value) (us ws : List Value), us.length = n → ws.length = ks.length → bindArgs (PySem.W.fnOf x qual params body scope .none kV doc pm an cdv ct) ⟨us, ks.zip ws⟩ = pure (ps.zip (us ++ ws))) : KBa K fd ps n ks := by
  obtain ⟨oc, od, dV, kV, doc, pm, an, cdv, ct, osl, rfl, lk, hcd, hD, hK⟩ := F.ex
  rcases hD with ⟨_, rfl⟩ | ⟨e, _⟩
  · exact ⟨fun s us ws _ l1 l2 => .of_eq (h kV doc pm an cdv ct us ws l1 l2), hl⟩
  · exact absurd rfl e
section
variable {X : Cx} {CX : CXT} {k n : Nat} {f C : Addr} {fd : FuncData} {ps ks : List Str} {sp : Sp} {E : XK} {x m : Str} {p pos apos : Pos} {o : Expr} {kws : List Keyword} {ta : TE} {tk : TA}
theorem run_kba {pins : List (Addr × Obj)} {σ : St} {H : Hp} {s : Shared} {Q : VK} {us ws : List Value} {vs zs : List V} (F : FnOk X.prog X.w X.K X.mg X.base CX k f fd ps sp) (hr : Room k X.A) (hb : KBa X.K fd ps n ks) (hx : Passes CX X E)
    (I : Inv X pins σ H s) (r : Vals vs us) (rz : Vals zs ws) (l1 : vs.length = n) (h : sp (vs ++ zs) H Q E) : wpAny (model X.prog X.w) X.A (call (.ref f) us (ks.zip ws)) (EP X pins σ Q) X.xe s := by
  have r2 : Vals (vs ++ zs) (us ++ ws) := r.append rz
  have hl := F.len _ _ _ _ h
  have l2 : zs.length = ks.length := by have := hb.len; rw [List.length_append] at hl; omega
  refine wpAny_call (codeAny_mono (F.run X.A X.stack s H ⟨us, ks.zip ws⟩ (us ++ ws) (vs ++ zs) Q E hr I.env0 (hb.to s us ws I.kIn (r.length.symm.trans l1) (rz.length.symm.trans l2)) r2 h) fun r s' hq => ?_)
  cases r with
  | error e => exact hx pins σ H s e s' I hq
  | ok fl =>
    cases fl with
    | ret u => exact I.after hq
    | next => exact False.elim hq
    | brk => exact False.elim hq
    | cont => exact False.elim hq
/-- o.m(k = v, ..) -/
theorem pe_methKw {pl : Sem Bool} (he : PE X o ta) (c : Cls X.K C) (hm : Meth X.K C m f) (F : FnOk X.prog X.w X.K X.mg X.base CX k f fd ps sp) (hr : Room k X.A) (hb : KBa X.K fd ps 1 ks) (hx : Passes CX X E) (hkw : PK X kws tk)
    (hall : (backToKw pos (keywordEach kws X.env)).all (·.1.isSome) = true := by rfl) (hks : (backToKw pos (keywordEach kws X.env)).filterMap (·.1) = ks := by rfl)
    (hpl : ((backTo pos (starEach [] X.env)).any (·.1) || (backToKw pos (keywordEach kws X.env)).any (·.1.isNone)) = false := by rfl)
    (ht : eval (.Call (.Attribute o m apos) [] kws pos) X.env = (do
      let ov ← eval o X.env
      standAt apos.atName
      let (f, first) ← holding [ov] (getMethod ov m pl)
      callWith pos f first (backTo pos (starEach [] X.env)) (backToKw pos (keywordEach kws X.env))) := by rfl) :
    PE X (.Call (.Attribute o m apos) [] kws pos) (tMeth C m sp [] E ta tk) := by
  refine ⟨fun pins s σ H Q I h => ?_⟩
  refine PySem.W.methodCall_KW (pl := pl) (thn (he.run pins s σ H _ I h) fun u s1 ⟨x, H1, I1, rx, a, dx, fs, ex, ea, l, q⟩ => ?_) ht
  subst ex
  obtain rfl : u = Value.ref a := rx
  refine getmeth_ok I1 ea c hm l ?_
  refine PySem.W.callWith_KW0 (first := [.ref a]) (h₀ := X.base) I.ok.mod.kin hm.kp hall ?_ hpl
  refine thn (hkw.run pos pins s1 σ H1 _ I1 q) fun ws s2 ⟨zs, H2, I2, rz, q2⟩ => ⟨I2.kIn, ?_⟩
  rw [hks]
  simp only [List.append_nil] at q2
  exact run_kba (us := [.ref a]) (vs := [.ref a]) F hr hb hx I2 (.cons rfl .nil) rz rfl q2
/-- f(k = v, ..) -/
theorem pe_callKw (F : FnOk X.prog X.w X.K X.mg X.base CX k f fd ps sp) (hr : Room k X.A) (hg : Gl X x) (hm : X.mg x = some (.ref f)) (hk : PySem.W.keepIn X.K (.ref f) = true) (hb : KBa X.K fd ps 0 ks) (hx : Passes CX X E) (hkw : PK X kws tk)
    (hall : (backToKw pos (keywordEach kws X.env)).all (·.1.isSome) = true := by rfl) (hks : (backToKw pos (keywordEach kws X.env)).filterMap (·.1) = ks := by rfl) (hdb : (x == ("__debug__" : Str)) = false := by decide)
    (hpl : ((backTo pos (starEach [] X.env)).any (·.1) || (backToKw pos (keywordEach kws X.env)).any (·.1.isNone)) = false := by rfl) :
    PE X (.Call (.Name x p) [] kws pos) (tCall sp [] E tk) := by
  refine ⟨fun pins s σ H Q I h => ?_⟩
  refine wpAny_Call_Name_kw (ld_glob I hg hm ?_ hdb)
  refine PySem.W.callWith_KW0 (h₀ := X.base) I.ok.mod.kin hk hall ?_ hpl
  refine thn (hkw.run pos pins s σ H _ I h) fun ws s2 ⟨zs, H2, I2, rz, q2⟩ => ⟨I2.kIn, ?_⟩
  rw [hks]
  simp only [List.append_nil] at q2
  exact run_kba (us := []) (vs := []) F hr hb hx I2 .nil rz rfl q2
/-- C(k = v, ..) -/
theorem pe_makeKw (M : Mk X.K C f) (F : FnOk X.prog X.w X.K X.mg X.base CX k f fd ps sp) (hr : Room (k + 1) X.A) (hg : Gl X x) (hm : X.mg x = some (.ref C)) (hb : KBa X.K fd ps 1 ks) (hx : Passes CX X E) (hkw : PK X kws tk)
    (hall : (backToKw pos (keywordEach kws X.env)).all (·.1.isSome) = true := by rfl) (hks : (backToKw pos (keywordEach kws X.env)).filterMap (·.1) = ks := by rfl) (hdb : (x == ("__debug__" : Str)) = false := by decide)
    (hpl : ((backTo pos (starEach [] X.env)).any (·.1) || (backToKw pos (keywordEach kws X.env)).any (·.1.isNone)) = false := by rfl) :
    PE X (.Call (.Name x p) [] kws pos) (tMake C sp [] E tk) := by
  refine ⟨fun pins s σ H Q I h => ?_⟩
  refine wpAny_Call_Name_kw (ld_glob I hg hm ?_ hdb)
  refine PySem.W.callWith_KW0 (h₀ := X.base) I.ok.mod.kin M.kp hall ?_ hpl
  refine thn (hkw.run pos pins s σ H _ I h) fun ws s2 ⟨zs, H2, I2, rz, q⟩ => ⟨I2.kIn, ?_⟩
  rw [hks]
  have hq := q (s2.heap.objs.size + 1) s2.heap.objs.size (I2.hok.fresh (Nat.le_succ _)) (I2.hok.fresh (Nat.le_refl _)) (Nat.ne_of_lt (Nat.lt_succ_self _))
  replace hq := (congrArg (fun z => sp (V.ref (s2.heap.objs.size + 1) :: z) (upd (upd H2 s2.heap.objs.size (.own (s2.heap.objs.size + 1))) (s2.heap.objs.size + 1) (.ins C s2.heap.objs.size [])) (fun v H3 => v = .non ∧ Q (.ref (s2.heap.objs.size + 1)) H3) E) (List.append_nil zs)).mp hq
  have I3 := Inv.made (C := C) I2
  have r1 : Vals (V.ref (s2.heap.objs.size + 1) :: zs) (Value.ref (s2.heap.objs.size + 1) :: ws) := .cons rfl rz
  have l2 : zs.length = ks.length := by have := F.len _ _ _ _ hq; have := hb.len; rw [List.length_cons] at *; omega
  refine wpAny_call (make_map (f := f) I2.kIn M.makes M.init (beq_iff_eq.mp M.fn) (codeAny_mono (F.run _ X.stack _ _ ⟨[Value.ref (s2.heap.objs.size + 1)], ks.zip ws⟩ (Value.ref (s2.heap.objs.size + 1) :: ws) _ _ E (hr.make C [] (ks.zip ws))
    (I3.env0.make C [] (ks.zip ws)) (hb.to _ [Value.ref (s2.heap.objs.size + 1)] ws I3.kIn rfl (rz.length.symm.trans l2)) r1 hq) fun r s' hq' => ?_))
  cases r with
  | error e => exact hx pins σ _ _ e s' I3 hq'
  | ok fl =>
    cases fl with
    | ret u =>
      obtain ⟨v, H', I4, rv, ev, q3⟩ := I3.after hq'
      subst ev
      exact ⟨rv, ⟨V.ref (s2.heap.objs.size + 1), H', I4, rfl, q3⟩⟩
    | next => exact False.elim hq'
    | brk => exact False.elim hq'
    | cont => exact False.elim hq'
end
end WB
namespace WB
open PySem PySem.Spec PyProof.Rows L2
section
variable {M : Model} {prog : Program} {w : World} {A : Around} {E : Value → Shared → Prop} {s : Shared} {K : PySem.W.Frag} {x C f : Addr} {ox : Obj} {od : Option Obj} {b : Value}
theorem entry_ne {Q : Fin → Shared → Prop} (hu : A.units < cLine) (X : K.In s.heap) (I : PySem.W.InstAt s.heap x ox C od) (hs : PySem.W.findIn K (.ref C) "__eq__" = some (some (.ref f))) (hf : PySem.W.isFn K (.ref f) = true)
    (h : wpAny M A (call (.ref f) [.ref x, b]) (fun v s' => ∃ c, v = .bool c ∧ Q (.done (.ret (.bool (!c)))) s') E s) : wpAny M A (Builtin.«object.__ne__» ⟨[.ref x, b], []⟩) Q E s := by
  unfold Builtin.«object.__ne__»
  refine wpAny_bind ?_
  wp_step
  wp_step
  show wpAny M A (pure (Value.ref x, [b])) _ E s
  refine wpAny_pure ?_
  show wpAny M A (cRoomFor "comparison" [Value.ref x, b] >>= _) Q E s
  refine wpAny_bind (wpAny_cRoomFor hu ?_)
  refine wpAny_bind (PySem.W.ifBound_K X I hs hf (wpAny_mono h (fun v s' hv => ?_) fun _ _ z => z))
  obtain ⟨c, rfl, q⟩ := hv
  exact wpAny_bind (wpAny_truthy_bool (wpAny_pure q))
theorem call_objNe {Q : Value → Shared → Prop} (hu : A.in1.units < cLine) (X : K.In s.heap) (I : PySem.W.InstAt s.heap x ox C od) (hm : PySem.W.mroIn K C (.type "object") = some true) (hs : PySem.W.findIn K (.ref C) "__eq__" = some (some (.ref f))) (hf : PySem.W.isFn K (.ref f) = true)
    (h : wpAny (model prog w) A.in1 (call (.ref f) [.ref x, b]) (fun v s' => ∃ c, v = .bool c ∧ Q (.bool (!c)) s') E s) : wpAny (model prog w) A (call (.builtin "object.__ne__") [.ref x, b]) Q E s :=
  wpAny_call (codeAny_call_builtin F.cmp_object.ne.plain F.cmpEntry_ne (PySem.W.check_slot F.cmpKind_ne F.cmpSplit_ne (I.type.andThen (PySem.W.looks_mroIn X hm)) (F.cmpArgs_ne _ _) (entry_ne hu X I hs hf h)))
theorem ifBound_objNe {args : List Value} {Q : Option Value → Shared → Prop} (X : K.In s.heap) (I : PySem.W.InstAt s.heap x ox C od) (hs : PySem.W.findIn K (.ref C) "__ne__" = some (some (.builtin "object.__ne__")))
    (h : wpAny M A (call (.builtin "object.__ne__") (.ref x :: args)) (fun v => Q (some v)) E s) : wpAny M A (callSpecialIfBound? (.ref x) "__ne__" args) Q E s := by
  simp only [callSpecialIfBound?, bindSpecialIfBound?]
  refine wpAny_holding (wpAny_bind (wpAny_bind (wpAny_bind (I.type.here ((PySem.W.looks_findIn X hs).here ?_)))))
  refine wpAny_bind (wpAny_askSetting (wpAny_ite ?_))
  have fin : wpAny M A (call (.builtin "object.__ne__") ([.ref x] ++ args) >>= fun v => pure (some v)) Q E s := wpAny_bind (wpAny_mono h (fun v s' h' => wpAny_pure h') fun _ _ h' => h')
  split
  · exact wpAny_bind (wpAny_of_eq (F.cmp_object.ne.bind _) (wpAny_pure (by exact fin)))
  · exact wpAny_tryCatch (wpAny_bind (wpAny_of_eq (F.cmp_object.ne.bind _) (wpAny_pure (by exact fin))))
theorem rc_ne {tb : Value} {Q : Value → Shared → Prop} (hu : A.units < cLine) (hu1 : A.in1.units < cLine) (X : K.In s.heap) (I : PySem.W.InstAt s.heap x ox C od) (hb : PySem.W.Looks (model prog w) s.heap (typeOf b) tb) (hn : PySem.W.notFirst K C tb = true) (hm : PySem.W.mroIn K C (.type "object") = some true)
    (h1 : PySem.W.findIn K (.ref C) "__ne__" = some (some (.builtin "object.__ne__"))) (hs : PySem.W.findIn K (.ref C) "__eq__" = some (some (.ref f))) (hf : PySem.W.isFn K (.ref f) = true)
    (h : wpAny (model prog w) A.in1 (call (.ref f) [.ref x, b]) (fun v s' => ∃ c, v = .bool c ∧ Q (.bool (!c)) s') E s) : wpAny (model prog w) A (richCompare .NotEq (.ref x) b) Q E s := by
  have one : wpAny (model prog w) A (tryCompare (.ref x) "__ne__" b) (fun r s' => ∃ v, r = some v ∧ Q v s') E s := by
    unfold tryCompare
    refine wpAny_bind (ifBound_objNe X I h1 (call_objNe hu1 X I hm hs hf (wpAny_mono h (fun v s' hv => ?_) fun _ _ e => e)))
    obtain ⟨c, rfl, q⟩ := hv
    exact ⟨c, rfl, wpAny_pure ⟨_, rfl, q⟩⟩
  simp only [richCompare, cmpInfo_NotEq, oneThing_ref]
  refine wpAny_holding (wpAny_bind (wpAny_cRoomFor hu ?_))
  refine wpAny_bind (I.type.here (wpAny_bind (hb.here ?_)))
  split
  · rename_i q
    have e : PySem.W.subIn K tb (.ref C) = some false := by
      rcases Bool.or_eq_true_iff.mp hn with e | e
      · rw [beq_iff_eq.mp e] at q; simp at q
      · exact beq_iff_eq.mp e
    refine wpAny_bind ((PySem.W.looks_subIn X e).here ?_)
    simp only [Bool.false_eq_true, if_false]
    refine wpAny_bind (wpAny_mono one (fun r s' z => ?_) fun _ _ e => e)
    obtain ⟨v, rfl, hq⟩ := z
    exact wpAny_pure hq
  · refine wpAny_bind (wpAny_pure ?_)
    simp only [Bool.false_eq_true, if_false]
    refine wpAny_bind (wpAny_mono one (fun r s' z => ?_) fun _ _ e => e)
    obtain ⟨v, rfl, hq⟩ := z
    exact wpAny_pure hq
end
/-! ### == and != of an own thing and anything -/
theorem type_looks {X : Cx} {pins : List (Addr × Obj)} {σ : L2.St} {H : Hp} {s : Shared} {y : V} {v t : Value} (I : L2.Inv X pins σ H s) (ry : RelV y v) (ty : TyX X.K H y t) : PySem.W.Looks (model X.prog X.w) s.heap (typeOf v) t := by
  obtain ⟨P, Z, hP, _⟩ := kit_of I ry ty
  exact Z.ty _ _ I.kIn hP
section
variable {X : Cx} {CX : CXT} {k : Nat} {f C : Addr} {fd : FuncData} {ps : List Str} {sp : Sp} {E : XK}
def rEqA (K : PySem.W.Frag) (C : Addr) (sp : Sp) (E : XK) : R2 := fun x y H Q => ∃ a dx fs t, x = .ref a ∧ H a = some (.ins C dx fs) ∧ TyX K H y t ∧ PySem.W.notFirst K C t = true ∧ sp [x, y] H (fun z H' => ∃ c, z = .bl c ∧ Q z H') E
theorem op_eqA (S : Spec1 X.K C "__eq__" f) (F : FnOk X.prog X.w X.K X.mg X.base CX k f fd ps sp) (hr : Room k X.A) (hb : Binds X.K fd ps []) (hx : Passes CX X E) : OpR X (compareOp .Eq) (rEqA X.K C sp E) := by
  intro pins s σ H x y v u Q I rx ry h
  obtain ⟨a, dx, fs, t, rfl, ha, ty, nf, h⟩ := h
  cases rx
  obtain ⟨ox, od, J⟩ := inst_at I ha
  obtain ⟨m, hF⟩ := I.fr
  have sb : Sub X k X.A := ⟨hr, rfl⟩
  show wpAny (model X.prog X.w) X.A (richCompare .Eq (.ref a) u) (EP X pins σ Q) X.xe s
  refine PySem.W.cmp_K (op := .Eq) (tb := t) sb.room.units0 hF I.ok.mod.kin J (type_looks I ry ty) nf S.at_ S.fn (wpAny_mono (run_sub (dvs := []) (vs := [.ref a, y]) F sb hb .nil hx I (.cons rfl (.cons ry .nil)) h) (fun v s' hv => ?_) fun _ _ z => z)
  obtain ⟨z, H', I', rz, c, rfl, q⟩ := hv
  cases rz
  exact ⟨.bl c, H', I', rfl, q⟩
structure NeF (K : PySem.W.Frag) (C : Addr) : Prop where
  ne : PySem.W.findIn K (.ref C) "__ne__" = some (some (.builtin "object.__ne__"))
  mro : PySem.W.mroIn K C (.type "object") = some true
def rNeA (K : PySem.W.Frag) (C : Addr) (sp : Sp) (E : XK) : R2 := fun x y H Q => ∃ a dx fs t, x = .ref a ∧ H a = some (.ins C dx fs) ∧ TyX K H y t ∧ PySem.W.notFirst K C t = true ∧ sp [x, y] H (fun z H' => ∃ c, z = .bl c ∧ Q (.bl (!c)) H') E
theorem op_neA (N : NeF X.K C) (S : Spec1 X.K C "__eq__" f) (F : FnOk X.prog X.w X.K X.mg X.base CX k f fd ps sp) (hr : Room (k + 1) X.A) (hb : Binds X.K fd ps []) (hx : Passes CX X E) : OpR X (compareOp .NotEq) (rNeA X.K C sp E) := by
  intro pins s σ H x y v u Q I rx ry h
  obtain ⟨a, dx, fs, t, rfl, ha, ty, nf, h⟩ := h
  cases rx
  obtain ⟨ox, od, J⟩ := inst_at I ha
  have sb : Sub X (k + 1) X.A := ⟨hr, rfl⟩
  show wpAny (model X.prog X.w) X.A (richCompare .NotEq (.ref a) u) (EP X pins σ Q) X.xe s
  refine rc_ne sb.room.units0 sb.in1.room.units0 I.kIn J (type_looks I ry ty) nf N.mro N.ne S.at_ S.fn (wpAny_mono (run_sub (dvs := []) (vs := [.ref a, y]) F sb.in1 hb .nil hx I (.cons rfl (.cons ry .nil)) h) (fun v s' hv => ?_) fun _ _ z => z)
  obtain ⟨z, H', I', rz, c, rfl, q⟩ := hv
  cases rz
  exact ⟨c, rfl, .bl (!c), H', I', rfl, q⟩
end
theorem notFirst_own {K : PySem.W.Frag} {C : Addr} : PySem.W.notFirst K C (.ref C) = true := by simp [PySem.W.notFirst]
theorem notFirst_ty {K : PySem.W.Frag} {C : Addr} {n : String} {r : List String} (e : fastBuiltinMro n = some (r.map Value.type)) : PySem.W.notFirst K C (.type n) = true := by
  show (Value.type n == Value.ref C || (fastBuiltinMro n).map (·.contains (.ref C)) == some false) = true
  rw [e]
  have : (r.map Value.type).contains (.ref C) = false := by
    rw [Bool.eq_false_iff]
    intro h
    have := List.contains_iff_mem.mp h
    obtain ⟨x, _, hx⟩ := List.mem_map.mp this
    cases hx
  simp [this]
/-! ### lists of answers -/
theorem canLay_bools : ∀ bs : List Bool, PyData.canLayAll0 (bs.map PyData.bool) = true
  | [] => by simp [PyData.canLayAll0]
  | b :: bs => by
    rw [List.map_cons, PyData.canLayAll0, canLay_bools bs]
    simp [PyData.canLay0]
theorem depth_bools : ∀ bs : List Bool, PyData.depthAll (bs.map PyData.bool) = 0
  | [] => by simp [PyData.depthAll]
  | b :: bs => by
    rw [List.map_cons, PyData.depthAll, depth_bools bs]
    simp [PyData.depth]
theorem shaped_bools (bs : List Bool) : SeqAt.shaped (.list (bs.map PyData.bool)) = true := by
  unfold SeqAt.shaped
  refine Bool.and_eq_true_iff.mpr ⟨?_, decide_eq_true ?_⟩
  · rw [PyData.canLay0]; exact canLay_bools bs
  · rw [PyData.depth, depth_bools]; omega
theorem eqv_bools : ∀ bs cs : List Bool, PyData.eqvAll (bs.map PyData.bool) (cs.map PyData.bool) = decide (bs = cs)
  | [], [] => by simp [PyData.eqvAll]
  | [], m :: ms => by simp [PyData.eqvAll]
  | l :: ls, [] => by simp [PyData.eqvAll]
  | l :: ls, m :: ms => by
    rw [List.map_cons, List.map_cons, PyData.eqvAll, eqv_bools ls ms]
    have : PyData.eqv (.bool l) (.bool m) = decide (l = m) := by
      rw [PyData.eqv]
      cases l <;> cases m <;> rfl
    rw [this]
    by_cases e : l = m <;> by_cases e2 : ls = ms <;> simp [e, e2]
theorem dp_bools {K : PySem.W.Frag} {H : Hp} : ∀ bs : List Bool, DpAll K H (bs.map V.bl) (bs.map PyData.bool)
  | [] => .nil
  | b :: bs => .cons (.bl _) (dp_bools bs)
section
variable {K : PySem.W.Frag} {H : Hp} {Q : VK}
theorem s_eqLB {a b : Addr} {bs cs : List Bool} (h1 : SqL K H a (bs.map V.bl)) (h2 : SqL K H b (cs.map V.bl)) (k : Q (.bl (decide (bs = cs))) H) : rEqD K (.ref a) (.ref b) H Q := by
  refine ⟨_, _, .lst h1 (dp_bools bs), .lst h2 (dp_bools cs), shaped_bools bs, shaped_bools cs, ?_⟩
  rw [PyData.eqv, eqv_bools]
  exact k
theorem s_neLB {a b : Addr} {bs cs : List Bool} (h1 : SqL K H a (bs.map V.bl)) (h2 : SqL K H b (cs.map V.bl)) (k : Q (.bl (!decide (bs = cs))) H) : rNeD K (.ref a) (.ref b) H Q := by
  refine ⟨_, _, .lst h1 (dp_bools bs), .lst h2 (dp_bools cs), shaped_bools bs, shaped_bools cs, ?_⟩
  rw [PyData.eqv, eqv_bools]
  exact k
/-! ### a text in a text -/
def rInStr : R2 := fun x y H Q => ∃ i j, x = .str i ∧ y = .str j ∧ Q (.bl (!(Builtin.Str.occurrences j i 0 j.length 1).isEmpty)) H
def rNotInStr : R2 := fun x y H Q => ∃ i j, x = .str i ∧ y = .str j ∧ Q (.bl (!(!(Builtin.Str.occurrences j i 0 j.length 1).isEmpty))) H
def occ (l m : List Nat) : Bool := decide (∃ i, i ≤ m.length ∧ (m.drop i).take l.length = l)
theorem occ_of {l m : List Nat} : (!(Builtin.Str.occurrences (S m) (S l) 0 (S m).length 1).isEmpty) = occ l m := by
  rw [Bool.eq_iff_iff, PySem.StrLaws.found_iff]
  unfold occ
  rw [decide_eq_true_iff]
  have hx : ∀ i, (i + (S l).length ≤ (S m).length ∧ Builtin.Str.subAt (S m) (S l) i = true) ↔ (i ≤ m.length ∧ (m.drop i).take l.length = l) := by
    intro i
    rw [S_len, S_len]
    unfold Builtin.Str.subAt
    rw [beq_iff_eq, ← Array.toList_inj, S_len]
    have e1 : ((S m).cps.extract i (i + l.length)).toList = (m.drop i).take l.length := by
      rw [Array.toList_extract, S_cps]
      simp [List.extract]
    rw [e1, S_cps]
    constructor
    · rintro ⟨h1, h2⟩
      exact ⟨by omega, h2⟩
    · rintro ⟨h1, h2⟩
      refine ⟨?_, h2⟩
      have := congrArg List.length h2
      rw [List.length_take, List.length_drop] at this
      omega
  constructor
  · rintro ⟨i, h⟩; exact ⟨i, (hx i).mp h⟩
  · rintro ⟨i, h⟩; exact ⟨i, (hx i).mpr h⟩
theorem s_inStr {l m : List Nat} (k : Q (.bl (occ l m)) H) : rInStr (vS l) (vS m) H Q := ⟨_, _, rfl, rfl, by rw [occ_of]; exact k⟩
theorem s_notInStr {l m : List Nat} (k : Q (.bl (!occ l m)) H) : rNotInStr (vS l) (vS m) H Q := ⟨_, _, rfl, rfl, by rw [occ_of]; exact k⟩
/-! ### lists: times, pop, append -/
theorem s_repL {a : Addr} {xs : List V} {n : Int} (h : H a = some (.lst xs)) (h0 : 0 ≤ n) (h1 : n ≤ 1000) (hz : xs.length * n.toNat ≤ sizeLine) (k : ∀ p H2, H p = none → Ex [] H H2 → H2 p = some (.lst (List.replicate n.toNat xs).flatten) → Q (.ref p) H2) : rRep (.ref a) (.int n) H Q :=
  ⟨a, n, xs, rfl, rfl, h, by omega, by omega, hz, s_new k⟩
theorem s_append {a : Addr} {xs : List V} {y : V} (h : H a = some (.lst xs)) (hz : xs.length < sizeLine) (k : ∀ H2, Ex [a] H H2 → H2 a = some (.lst (xs ++ [y])) → Q .non H2) : rAppend (.ref a) [y] H Q := ⟨a, xs, y, rfl, rfl, h, hz, k _ (Ex.put (by simp)) upd_same⟩
theorem s_popAt {a : Addr} {xs : List V} {i : Nat} {n : Int} {y : V} (h : H a = some (.lst xs)) (hn : n = i) (h0 : i < 1000000) (hy : xs[i]? = some y) (k : ∀ H2, Ex [a] H H2 → H2 a = some (.lst (xs.eraseIdx i)) → Q y H2) : rPopAt (.ref a) [.int n] H Q := by
  have hi : i < xs.length := (List.getElem?_eq_some_iff.mp hy).1
  refine ⟨a, xs, n, i, y, rfl, rfl, h, by omega, by omega, ?_, hy, k _ (Ex.put (by simp)) upd_same⟩
  subst hn
  unfold seqIndex?
  have e1 : ¬ (i : Int) < 0 := by omega
  have e2 : (0 ≤ (i : Int) && decide ((i : Int) < (xs.length : Int))) = true := by simp; omega
  simp only [e1, if_false]
  rw [if_pos (by simpa using hi)]
  rfl
theorem s_bm {te : TE} {ta : TA} {T : String} {r : V → List V → Hp → VK → Prop} {σ : L2.St} (k : te σ H fun x H1 => tyV K T x H1 ∧ ta σ H1 fun xs H2 => r x xs H2 Q) : tBM K T r te ta σ H Q := k
theorem s_tyL {a : Addr} {xs : List V} {B : Prop} (h : H a = some (.lst xs)) (k : B) : tyV K "list" (.ref a) H ∧ B := ⟨.inl ⟨rfl, xs, SqL.of h⟩, k⟩
end
end WB
namespace WB
open PySem PySem.Spec PyProof.Rows L2
/-! ### words and their turnings -/
def rot (l : List Nat) (i : Nat) : List Nat := l.drop i ++ l.take i
def rots (l : List Nat) : List (List Nat) := (List.range l.length).map (rot l)
def leastT (l : List Nat) : List Nat := match rots l with
  | [] => []
  | x :: xs => minL x xs
/-- the first p from here on, in so many, with rot l p = l; else the length -/
def lpAux (l : List Nat) : Nat → Nat → Nat
  | _, 0 => l.length
  | p, k + 1 => if rot l p = l then p else lpAux l (p + 1) k
def leastP (l : List Nat) : Nat := lpAux l 1 (l.length - 1)
theorem lpAux_at {l : List Nat} {q : Nat} (h : rot l q = l) : ∀ (k p : Nat), p ≤ q → q < p + k → (∀ r, p ≤ r → r < q → rot l r ≠ l) → lpAux l p k = q
  | 0, p, h1, h2, _ => by omega
  | k + 1, p, h1, h2, hn => by
    unfold lpAux
    by_cases e : p = q
    · subst e; rw [if_pos h]
    · rw [if_neg (hn p (Nat.le_refl _) (by omega))]
      exact lpAux_at h k (p + 1) (by omega) (by omega) fun r a b => hn r (by omega) b
theorem lpAux_none {l : List Nat} : ∀ (k p : Nat), (∀ r, p ≤ r → r < p + k → rot l r ≠ l) → lpAux l p k = l.length
  | 0, p, _ => rfl
  | k + 1, p, hn => by
    unfold lpAux
    rw [if_neg (hn p (Nat.le_refl _) (by omega))]
    exact lpAux_none k (p + 1) fun r a b => hn r (by omega) (by omega)
theorem leastP_at {l : List Nat} {q : Nat} (h1 : 1 ≤ q) (h2 : q < l.length) (h : rot l q = l) (hn : ∀ p, 1 ≤ p → p < q → rot l p ≠ l) : leastP l = q := lpAux_at h _ _ h1 (by omega) hn
theorem leastP_none {l : List Nat} (hn : ∀ p, 1 ≤ p → p < l.length → rot l p ≠ l) : leastP l = l.length := lpAux_none _ _ fun r a b => hn r a (by omega)
abbrev LET : List Nat := [97, 98, 99, 100, 101, 102, 103, 104, 105, 106, 107, 108, 109, 110, 111, 112, 113, 114, 115, 116, 117, 118, 119, 120, 121, 122]
theorem lit_abc : ("abcdefghijklmnopqrstuvwxyz" : Str) = S LET := by decide +kernel
theorem lit_empty : ("" : Str) = S [] := by decide +kernel
/-- a word of these signs, of at most 600 -/
def isWord (l s : List Nat) : Bool := decide (1 ≤ l.length ∧ l.length ≤ 600) && l.all fun c => decide (c ∈ s)
theorem flat1 : ∀ ls : List Nat, (ls.map fun c => [c]).flatten = ls
  | [] => rfl
  | c :: r => by rw [List.map_cons, List.flatten_cons, flat1 r]; rfl
/-! ### what is known of the class Ring -/
/-- the kinds of values that are met -/
def KD : List String := ["int", "bool", "str", "NoneType", "list", "tuple", "dict"]
structure RingK (K : PySem.W.Frag) : Prop where
  cl : Cls K (He.ga K "Ring")
  na : NoAttr K (He.ga K "Ring") "least"
  ty : ∀ (H : Hp) (a dx : Addr) (fs : List (Str × V)), H a = some (.ins (He.ga K "Ring") dx fs) → TyX K H (.ref a) (.ref (He.ga K "Ring"))
  me : PySem.W.kitOne K (.ref (He.ga K "Ring")) (.ref (He.ga K "Ring")) = some true
  no : ∀ n ∈ KD, PySem.W.kitOne K (.type n) (.ref (He.ga K "Ring")) = some false
def RingAt (K : PySem.W.Frag) (H : Hp) (a : Addr) (l : List Nat) : Prop := ∃ dx, H a = some (.ins (He.ga K "Ring") dx [("least", vS l)])
theorem RingAt.ex' {K : PySem.W.Frag} {H H' : Hp} {a : Addr} {l : List Nat} {m : List Addr} (h : RingAt K H a l) (e : Ex m H H') (n : a ∉ m) : RingAt K H' a l := by
  obtain ⟨dx, h⟩ := h
  exact ⟨dx, e a _ n h⟩
theorem RingAt.ex {K : PySem.W.Frag} {H H' : Hp} {a : Addr} {l : List Nat} {m : List Addr} (e : Ex m H H') (n : a ∉ m) (h : RingAt K H a l) : RingAt K H' a l := by
  obtain ⟨dx, h⟩ := h
  exact ⟨dx, e a _ n h⟩
theorem RingAt.updL {K : PySem.W.Frag} {H : Hp} {a D : Addr} {l : List Nat} {o : HO} (hd : H D = none ∨ ∃ l, H D = some (.lst l)) (h : RingAt K H a l) : RingAt K (L2.upd H D o) a l := by
  obtain ⟨dx, h⟩ := h
  refine ⟨dx, ?_⟩
  rw [upd_ne]
  · exact h
  · intro e
    subst e
    rcases hd with hd | ⟨l, hd⟩
    · rw [hd] at h; cases h
    · rw [hd] at h; cases h
/-- rings of words, one by one -/
def RingOf (K : PySem.W.Frag) (x y : V) (H : Hp) : Prop := ∃ w a, x = vS w ∧ y = .ref a ∧ RingAt K H a (leastT w)
theorem RingOf.ex {K : PySem.W.Frag} {x y : V} {H H' : Hp} (e : Ex [] H H') (h : RingOf K x y H) : RingOf K x y H' := by
  obtain ⟨w, a, h1, h2, h3⟩ := h
  exact ⟨w, a, h1, h2, h3.ex' e (by simp)⟩
theorem RingOf.updL {K : PySem.W.Frag} {x y : V} {H : Hp} {D : Addr} {o : HO} (hd : H D = none ∨ ∃ l, H D = some (.lst l)) (h : RingOf K x y H) : RingOf K x y (L2.upd H D o) := by
  obtain ⟨w, a, h1, h2, h3⟩ := h
  exact ⟨w, a, h1, h2, h3.updL hd⟩
theorem RingAt.uniq {K : PySem.W.Frag} {H : Hp} {a : Addr} {l m : List Nat} (h : RingAt K H a l) (h2 : RingAt K H a m) : l = m := by
  obtain ⟨dx, h⟩ := h
  obtain ⟨dy, h2⟩ := h2
  rw [h] at h2
  have e := Option.some.inj h2
  injection e with _ _ e
  injection e with e _
  injection e with _ e
  exact vS_eq.mp e
/-- texts of rings, one by one -/
def TextOf (K : PySem.W.Frag) (x y : V) (H : Hp) : Prop := ∃ a l, x = .ref a ∧ y = vS l ∧ RingAt K H a l
theorem TextOf.ex {K : PySem.W.Frag} {x y : V} {H H' : Hp} (e : Ex [] H H') (h : TextOf K x y H) : TextOf K x y H' := by
  obtain ⟨w, a, h1, h2, h3⟩ := h
  exact ⟨w, a, h1, h2, h3.ex' e (by simp)⟩
theorem TextOf.updL {K : PySem.W.Frag} {x y : V} {H : Hp} {D : Addr} {o : HO} (hd : H D = none ∨ ∃ l, H D = some (.lst l)) (h : TextOf K x y H) : TextOf K x y (L2.upd H D o) := by
  obtain ⟨w, a, h1, h2, h3⟩ := h
  exact ⟨w, a, h1, h2, h3.updL hd⟩
/-! ### the program's promises -/
def Kd (K : PySem.W.Frag) (H : Hp) (v : V) (n : String) : Prop := TyX K H v (.type n) ∧ n ∈ KD
def sp_is_integer (K : PySem.W.Frag) : Sp := fun vs H Q _ => ∃ (v : V) (n : String), vs = [v] ∧ Kd K H v n ∧ Q (.bl (decide (n = "int"))) H
def sp_is_word (K : PySem.W.Frag) : Sp := fun vs H Q _ => ∃ (v : V) (s : List Nat), vs = [v, vS s] ∧ ((∃ l : List Nat, v = vS l ∧ l.length ≤ 10000 ∧ ∀ H', Ex [] H H' → Q (.bl (isWord l s)) H') ∨ (∃ n, Kd K H v n ∧ n ≠ "str" ∧ Q (.bl false) H))
def sp_least_turning (K : PySem.W.Frag) : Sp := fun vs H Q _ => ∃ l : List Nat, vs = [vS l] ∧ l ≠ [] ∧ l.length ≤ 10000 ∧ ∀ H', Ex [] H H' → Q (vS (leastT l)) H'
def sp_least_period (K : PySem.W.Frag) : Sp := fun vs H Q _ => ∃ l : List Nat, vs = [vS l] ∧ l.length ≤ 10000 ∧ Q (.int (leastP l)) H
def sp_Ring_init (K : PySem.W.Frag) : Sp := fun vs H Q _ => ∃ (x dx : Addr) (l : List Nat), vs = [.ref x, vS l] ∧ isWord l LET = true ∧ H x = some (.ins (He.ga K "Ring") dx []) ∧
  ∀ H', Ex [x] H H' → H' x = some (.ins (He.ga K "Ring") dx [("least", vS (leastT l))]) → Q .non H'
def sp_Ring_text (K : PySem.W.Frag) : Sp := fun vs H Q _ => ∃ (a : Addr) (l : List Nat), vs = [.ref a] ∧ RingAt K H a l ∧ Q (vS l) H
def sp_Ring_period (K : PySem.W.Frag) : Sp := fun vs H Q _ => ∃ (a : Addr) (l : List Nat), vs = [.ref a] ∧ RingAt K H a l ∧ l.length ≤ 10000 ∧ Q (.int (leastP l)) H
def sp_Ring_str (K : PySem.W.Frag) : Sp := fun vs H Q _ => ∃ (a : Addr) (l : List Nat), vs = [.ref a] ∧ RingAt K H a l ∧ Q (vS l) H
def sp_Ring_len (K : PySem.W.Frag) : Sp := fun vs H Q _ => ∃ (a : Addr) (l : List Nat), vs = [.ref a] ∧ RingAt K H a l ∧ l.length ≤ 10000 ∧ Q (.int l.length) H
def sp_Ring_eq (K : PySem.W.Frag) : Sp := fun vs H Q _ => ∃ (a : Addr) (v : V), vs = [.ref a, v] ∧ ∃ l, RingAt K H a l ∧ ((∃ b m, v = .ref b ∧ RingAt K H b m ∧ Q (.bl (decide (l = m))) H) ∨ (∃ n, Kd K H v n ∧ Q (.bl false) H))
/-- a new ring of the word l -/
def NewRing (K : PySem.W.Frag) (H : Hp) (Q : VK) (l : List Nat) : Prop := ∀ x H', H x = none → Ex [] H H' → RingAt K H' x (leastT l) → Q (.ref x) H'
def sp_Ring_invert (K : PySem.W.Frag) : Sp := fun vs H Q _ => ∃ (a : Addr) (l : List Nat), vs = [.ref a] ∧ RingAt K H a l ∧ isWord l LET = true ∧ NewRing K H Q l.reverse
def sp_Ring_mul (K : PySem.W.Frag) : Sp := fun vs H Q _ => ∃ (a : Addr) (l : List Nat) (k : Int), vs = [.ref a, .int k] ∧ RingAt K H a l ∧ isWord l LET = true ∧ 1 ≤ k ∧ (l.length : Int) * k ≤ 600 ∧ NewRing K H Q (rep k.toNat l)
def sp_Ring_add (K : PySem.W.Frag) : Sp := fun vs H Q _ => ∃ (a b : Addr) (l m : List Nat), vs = [.ref a, .ref b] ∧ RingAt K H a l ∧ RingAt K H b m ∧ isWord l LET = true ∧ isWord m LET = true ∧ l.length + m.length ≤ 600 ∧ NewRing K H Q (l ++ m)
/-! ### the law's own defs that all laws share -/
def PoolAt (H : Hp) (a : Addr) : Prop := ∃ x y z : Int, H a = some (.lst [.int x, .int y, .int z])
def sp_law_cell (K : PySem.W.Frag) : Sp := fun vs H Q _ => ∃ (a : Addr) (ns : List Int) (k : Int), vs = [.ref a, .int k] ∧ SqL K H a (ns.map V.int) ∧ ns.length ≤ 63 ∧ 0 ≤ k ∧ k < 1000 ∧ ∀ c H', Ex [] H H' → Q (.int c) H'
def sp_law_pool (K : PySem.W.Frag) : Sp := fun vs H Q _ => ∃ c : Int, vs = [.int c] ∧ ∀ p H', H p = none → Ex [] H H' → PoolAt H' p → Q (.ref p) H'
def sp_law_draw (K : PySem.W.Frag) : Sp := fun vs H Q _ => ∃ (a : Addr) (m : Int), vs = [.ref a, .int m] ∧ 0 < m ∧ m < 1000000 ∧ PoolAt H a ∧ ∀ (r : Int) (H' : Hp), 0 ≤ r → r < m → Ex [a] H H' → PoolAt H' a → Q (.int r) H'
def sp_law_signs (K : PySem.W.Frag) : Sp := fun vs H Q _ => ∃ (a : Addr) (m : Int), vs = [.ref a, .int m] ∧ 0 < m ∧ m ≤ 4 ∧ PoolAt H a ∧
  ∀ (l : List Nat) (H' : Hp), l ≠ [] → (l.length : Int) ≤ m → (∀ c ∈ l, c ∈ LET) → l.Nodup → Ex [a] H H' → PoolAt H' a → Q (vS l) H'
def sp_law_word (K : PySem.W.Frag) : Sp := fun vs H Q _ => ∃ (a : Addr) (abc : List Nat) (m : Int), vs = [.ref a, vS abc, .int m] ∧ abc ≠ [] ∧ abc.length ≤ 1000 ∧ 0 < m ∧ m ≤ 1000 ∧ PoolAt H a ∧
  ∀ (l : List Nat) (H' : Hp), l ≠ [] → (l.length : Int) ≤ m → (∀ c ∈ l, c ∈ abc) → Ex [a] H H' → PoolAt H' a → Q (vS l) H'
def sp_law_turnings (K : PySem.W.Frag) : Sp := fun vs H Q _ => ∃ l : List Nat, vs = [vS l] ∧ l.length ≤ 10000 ∧ ∀ p H', H p = none → Ex [] H H' → H' p = some (.lst ((rots l).map vS)) → Q (.ref p) H'
def sp_law (K : PySem.W.Frag) : Sp := fun vs H Q _ => ∃ (a : Addr) (ns : List Int), vs = [.ref a] ∧ SqL K H a (ns.map V.int) ∧ ns.length ≤ 63 ∧ ∀ H', Q (.bl true) H'
theorem PoolAt.ex {H H' : Hp} {a : Addr} {m : List Addr} (e : Ex m H H') (n : a ∉ m) (h : PoolAt H a) : PoolAt H' a := by
  obtain ⟨x, y, z, h⟩ := h
  exact ⟨x, y, z, e a _ n h⟩
theorem PoolAt.there {H : Hp} {a : Addr} (h : PoolAt H a) : H a ≠ none := by
  obtain ⟨x, y, z, h⟩ := h
  rw [h]
  simp
theorem RingAt.ne {K : PySem.W.Frag} {H : Hp} {a b : Addr} {l : List Nat} (h : RingAt K H b l) (p : PoolAt H a) : b ≠ a := by
  obtain ⟨dx, h⟩ := h
  obtain ⟨x, y, z, p⟩ := p
  intro e
  subst e
  rw [h] at p
  cases p
theorem PoolAt.upd {H : Hp} {a D : Addr} {o : HO} (h : PoolAt H a) (n : D ∉ [a]) : PoolAt (L2.upd H D o) a := by
  obtain ⟨x, y, z, h⟩ := h
  exact ⟨x, y, z, by rw [upd_ne (fun e => n (by rw [e]; simp))]; exact h⟩
section
variable {K : PySem.W.Frag} {H : Hp} {Q : VK} {E : XK}
theorem u_draw {a : Addr} {m : Int} (h0 : 0 < m) (h1 : m < 1000000) (hp : PoolAt H a) (k : ∀ (r : Int) (H' : Hp), 0 ≤ r → r < m → Ex [a] H H' → PoolAt H' a → Q (.int r) H') : sp_law_draw K ([.ref a, .int m] ++ []) H Q E := ⟨a, m, rfl, h0, h1, hp, k⟩
theorem u_pool {c : Int} (k : ∀ p H', H p = none → Ex [] H H' → PoolAt H' p → Q (.ref p) H') : sp_law_pool K ([.int c] ++ []) H Q E := ⟨c, rfl, k⟩
theorem u_cell {a : Addr} {n : Int} {ns : List Int} (hs : SqL K H a (ns.map V.int)) (hl : ns.length ≤ 63) (h0 : 0 ≤ n) (h1 : n < 1000) (k : ∀ c H', Ex [] H H' → Q (.int c) H') : sp_law_cell K ([.ref a, .int n] ++ []) H Q E := ⟨a, ns, n, rfl, hs, hl, h0, h1, k⟩
theorem u_signs {a : Addr} {m : Int} (h0 : 0 < m) (h1 : m ≤ 4) (hp : PoolAt H a) (k : ∀ (l : List Nat) (H' : Hp), l ≠ [] → (l.length : Int) ≤ m → (∀ c ∈ l, c ∈ LET) → l.Nodup → Ex [a] H H' → PoolAt H' a → Q (vS l) H') : sp_law_signs K ([.ref a, .int m] ++ []) H Q E := ⟨a, m, rfl, h0, h1, hp, k⟩
theorem u_word {a : Addr} {abc : List Nat} {m : Int} (ha : abc ≠ []) (hl : abc.length ≤ 1000) (h0 : 0 < m) (h1 : m ≤ 1000) (hp : PoolAt H a) (k : ∀ (l : List Nat) (H' : Hp), l ≠ [] → (l.length : Int) ≤ m → (∀ c ∈ l, c ∈ abc) → Ex [a] H H' → PoolAt H' a → Q (vS l) H') : sp_law_word K ([.ref a, vS abc, .int m] ++ []) H Q E := ⟨a, abc, m, rfl, ha, hl, h0, h1, hp, k⟩
theorem u_turnings {l : List Nat} (hl : l.length ≤ 10000) (k : ∀ p H', H p = none → Ex [] H H' → H' p = some (.lst ((rots l).map vS)) → Q (.ref p) H') : sp_law_turnings K ([vS l] ++ []) H Q E := ⟨l, rfl, hl, k⟩
theorem Kd.int {i : Int} : Kd K H (.int i) "int" := ⟨.base (.int i), by decide +kernel⟩
theorem Kd.bl {b : Bool} : Kd K H (.bl b) "bool" := ⟨.base (.bl b), by decide +kernel⟩
theorem Kd.non : Kd K H .non "NoneType" := ⟨.base .non, by decide +kernel⟩
theorem Kd.str {l : List Nat} : Kd K H (vS l) "str" := ⟨.base (.str (S l)), by decide +kernel⟩
theorem Kd.tup {a : Addr} {xs : List V} (h : SqT K H a xs) : Kd K H (.ref a) "tuple" := by
  refine ⟨?_, by decide +kernel⟩
  rcases h with (h | ⟨o, h⟩) | ⟨o, its, n, h1, h2, _⟩
  · exact .base (.tup h)
  · exact .fTuple h
  · exact .kTuple h1 h2
theorem Kd.lst {a : Addr} {xs : List V} (h : H a = some (.lst xs)) : Kd K H (.ref a) "list" := ⟨.base (.lst h), by decide +kernel⟩
theorem u_is_integer {i : Int} (k : Q (.bl true) H) : sp_is_integer K ([.int i] ++ []) H Q E := ⟨.int i, "int", rfl, Kd.int, k⟩
theorem u_not_integer {v : V} {n : String} (h : Kd K H v n) (hn : n ≠ "int") (k : Q (.bl false) H) : sp_is_integer K ([v] ++ []) H Q E := ⟨v, n, rfl, h, by rw [decide_eq_false hn]; exact k⟩
theorem kitB_str {n : String} (h : n ∈ KD) (hn : n ≠ "str") : kitB n "str" = some false := by
  simp only [KD, List.mem_cons, List.not_mem_nil, or_false] at h
  rcases h with rfl | rfl | rfl | rfl | rfl | rfl | rfl
  all_goals first | exact absurd rfl hn | decide +kernel
theorem s_isiK {v : V} {n m : String} {b : Bool} (h : Kd K H v n) (hb : kitB n m = some b) (k : Q (.bl b) H) : rIsi K [v, .ty m] H Q := ⟨_, _, _, _, _, rfl, .ty _, h.1, kit_ty hb, k⟩
theorem u_is_word {l s : List Nat} (hl : l.length ≤ 10000) (k : ∀ H', Ex [] H H' → Q (.bl (isWord l s)) H') : sp_is_word K ([vS l] ++ [vS s]) H Q E := ⟨_, _, rfl, .inl ⟨l, rfl, hl, k⟩⟩
theorem u_not_word {v : V} {s : List Nat} {n : String} (h : Kd K H v n) (hn : n ≠ "str") (k : Q (.bl false) H) : sp_is_word K ([v] ++ [vS s]) H Q E := ⟨_, _, rfl, .inr ⟨n, h, hn, k⟩⟩
theorem u_least_turning {l : List Nat} (h0 : l ≠ []) (hl : l.length ≤ 10000) (k : ∀ H', Ex [] H H' → Q (vS (leastT l)) H') : sp_least_turning K ([vS l] ++ []) H Q E := ⟨l, rfl, h0, hl, k⟩
theorem u_least_period {l : List Nat} (hl : l.length ≤ 10000) (k : Q (.int (leastP l)) H) : sp_least_period K ([vS l] ++ []) H Q E := ⟨l, rfl, hl, k⟩
theorem u_fldRing {a : Addr} {l : List Nat} (F : RingK K) (h : RingAt K H a l) (k : Q (vS l) H) : FldG K "least" (.ref a) H Q := by
  obtain ⟨dx, h⟩ := h
  exact ⟨a, _, dx, _, _, rfl, h, F.cl, F.na, rfl, k⟩
theorem u_setRing {x dx : Addr} {y : V} {R : Hp → Prop} (F : RingK K) (h : H x = some (.ins (He.ga K "Ring") dx [])) (k : ∀ H2, Ex [x] H H2 → H2 x = some (.ins (He.ga K "Ring") dx [("least", y)]) → R H2) : SetG K "least" y (.ref x) H R :=
  ⟨x, _, dx, [], rfl, h, F.cl, F.na, by simp, k _ (Ex.put (by simp)) upd_same⟩
theorem u_textP {a : Addr} {l : List Nat} (h : RingAt K H a l) (k : Q (vS l) H) : PropG (He.ga K "Ring") (sp_Ring_text K) [] E (.ref a) H Q := by
  obtain ⟨dx, h'⟩ := id h
  exact ⟨a, dx, _, rfl, h', a, l, rfl, h, k⟩
theorem u_periodP {a : Addr} {l : List Nat} (h : RingAt K H a l) (hl : l.length ≤ 10000) (k : Q (.int (leastP l)) H) : PropG (He.ga K "Ring") (sp_Ring_period K) [] E (.ref a) H Q := by
  obtain ⟨dx, h'⟩ := id h
  exact ⟨a, dx, _, rfl, h', a, l, rfl, h, hl, k⟩
theorem u_lenRing {a : Addr} {l : List Nat} (h : RingAt K H a l) (hl : l.length ≤ 10000) (k : Q (.int l.length) H) : rLenO (He.ga K "Ring") (sp_Ring_len K) E [.ref a] H Q := by
  obtain ⟨dx, h'⟩ := id h
  exact ⟨a, dx, _, rfl, h', a, l, rfl, h, hl, l.length, rfl, by omega, k⟩
theorem u_strRing {a : Addr} {l : List Nat} (h : RingAt K H a l) (k : Q (vS l) H) : rStrO (He.ga K "Ring") (sp_Ring_str K) E [.ref a] H Q := by
  obtain ⟨dx, h'⟩ := id h
  exact ⟨a, dx, _, rfl, h', a, l, rfl, h, _, rfl, k⟩
theorem u_eqRing {a b : Addr} {l m : List Nat} (h : RingAt K H a l) (h2 : RingAt K H b m) (k : Q (.bl (decide (l = m))) H) : rEqO (He.ga K "Ring") (sp_Ring_eq K) E (.ref a) (.ref b) H Q := by
  obtain ⟨dx, h'⟩ := id h
  obtain ⟨dy, h2'⟩ := id h2
  exact ⟨a, dx, _, b, dy, _, rfl, rfl, h', h2', a, _, rfl, l, h, .inl ⟨b, m, rfl, h2, _, rfl, k⟩⟩
theorem u_isiRing {a : Addr} {l : List Nat} (F : RingK K) (h : RingAt K H a l) (k : Q (.bl true) H) : rIsi K [.ref a, .ref (He.ga K "Ring")] H Q := by
  obtain ⟨dx, h'⟩ := id h
  exact ⟨_, _, _, _, _, rfl, .own _, F.ty _ _ _ _ h', F.me, k⟩
theorem u_makeRing {l : List Nat} (hw : isWord l LET = true) (k : NewRing K H Q l) : MakeG (He.ga K "Ring") (sp_Ring_init K) [] E [vS l] H Q := by
  intro x dx hx hdx ne
  refine ⟨x, dx, l, rfl, hw, upd_same, fun H' e h => ⟨rfl, k x H' hx ?_ ⟨dx, h⟩⟩⟩
  intro b o _ hb
  have nb : b ≠ x := ne_of_none hb hx
  refine e b o (by simpa using nb) ?_
  rw [upd_ne nb, upd_ne (ne_of_none hb hdx)]
  exact hb
theorem u_invRing {a : Addr} {l : List Nat} (h : RingAt K H a l) (hw : isWord l LET = true) (k : NewRing K H Q l.reverse) : rUnO (He.ga K "Ring") (sp_Ring_invert K) E (.ref a) H Q := by
  obtain ⟨dx, h'⟩ := id h
  exact ⟨a, dx, _, rfl, h', a, l, rfl, h, hw, k⟩
theorem u_mulRing {a : Addr} {l : List Nat} {n : Int} (h : RingAt K H a l) (hw : isWord l LET = true) (h1 : 1 ≤ n) (h2 : (l.length : Int) * n ≤ 600) (k : NewRing K H Q (rep n.toNat l)) : rBinI (He.ga K "Ring") (sp_Ring_mul K) E (.ref a) (.int n) H Q := by
  obtain ⟨dx, h'⟩ := id h
  exact ⟨a, dx, _, rfl, h', ⟨n, rfl⟩, a, l, n, rfl, h, hw, h1, h2, k⟩
theorem u_addRing {a b : Addr} {l m : List Nat} (h : RingAt K H a l) (h2 : RingAt K H b m) (hw : isWord l LET = true) (hw2 : isWord m LET = true) (hl : l.length + m.length ≤ 600) (k : NewRing K H Q (l ++ m)) : rBinO (He.ga K "Ring") (sp_Ring_add K) E (.ref a) (.ref b) H Q := by
  obtain ⟨dx, h'⟩ := id h
  obtain ⟨dy, h2'⟩ := id h2
  exact ⟨a, dx, _, rfl, h', ⟨b, dy, _, rfl, h2'⟩, a, b, l, m, rfl, h, h2, hw, hw2, hl, k⟩
theorem isWord_len {l s : List Nat} (h : isWord l s = true) : 1 ≤ l.length ∧ l.length ≤ 600 := of_decide_eq_true (Bool.and_eq_true_iff.mp h).1
theorem isWord_in {l s : List Nat} (h : isWord l s = true) : ∀ c ∈ l, c ∈ s := fun c hc => of_decide_eq_true (List.all_eq_true.mp (Bool.and_eq_true_iff.mp h).2 c hc)
theorem isWord_mk {l s : List Nat} (h1 : 1 ≤ l.length) (h2 : l.length ≤ 600) (h3 : ∀ c ∈ l, c ∈ s) : isWord l s = true := Bool.and_eq_true_iff.mpr ⟨decide_eq_true ⟨h1, h2⟩, List.all_eq_true.mpr fun c hc => decide_eq_true (h3 c hc)⟩
end
end WB
/-! the head: facts by names -/
namespace WB
open PySem PySem.Spec PyProof.Rows L2
abbrev Fr' := PySem.W.Frag
abbrev Fx := PySem.W.Frag → Bool
def obsW (fa : List He.Fa) (fn : List He5.DefA) (ex : List Fx) (K : Fr') : He.AlD := ((fa.all fun f => f.ok K) && (ex.all (fun f => f K) && fn.all fun d => d.ok K), fn.map fun d => He5.fnA K (d.at_ K))
def SaysW (fa : List He.Fa) (fn : List He5.DefA) (ex : List Fx) (K : Fr') : Prop := obsW fa fn ex K = He5.valA fn
/-- a number, worked out ahead of what follows -/
def frN {α : Type} (n : Nat) (k : Nat → α) : α := Nat.rec (k 0) (fun m _ => k (m + 1)) n
/-- those not seen yet (seen: a number whose bits tell) -/
def addB {α : Type} : List Addr → Nat → List Addr → (Nat → List Addr → α) → α
  | [], seen, new, k => k seen new
  | a :: r, seen, new, k => match Nat.beq (Nat.land (Nat.shiftRight seen a) 1) 1 with
    | true => addB r seen new k
    | false => frN (Nat.lor seen (Nat.shiftLeft 1 a)) fun seen' => addB r seen' (a :: new) k
def bfsB (g : Addr → Option Obj) : Nat → Nat → List Addr → List Addr → List Addr
  | 0, _, _, acc => acc
  | n + 1, seen, front, acc => addB (front.flatMap fun a => match g a with
    | some o => He.refsD o
    | none => []) seen [] fun seen' new => bfsB g n seen' new (new ++ acc)
/-- what the module's names reach in n steps -/
def asB (g : Addr → Option Obj) (n : Nat) : List Addr := bfsB g n (Nat.shiftLeft 1 mainGlobals) [mainGlobals] [mainGlobals] ++ [cStatics]
def obsWG (n : Nat) (fa : List He.Fa) (fn : List He5.DefA) (ex : List Fx) (g : Addr → Option Obj) : He.AlD := obsW fa fn ex (He.frG g (asB g n))
def hookW (n : Nat) (fa : List He.Fa) (fn : List He5.DefA) (ex : List Fx) : PySem.W.Hook where
  α := He.AlD
  obs := fun s => obsWG n fa fn ex s.heap.get?
  val := fun _ => He5.valA fn
  says := fun _ h => ∃ K : Fr', K.In h ∧ SaysW fa fn ex K
  of := fun _ _ e => ⟨_, He.frG_in, e⟩
  keeps := fun _ _ _ ⟨K, hK, c⟩ k => ⟨K, PySem.W.Frag.In.keeps hK k, c⟩
theorem obsWG_eq {n : Nat} {fa : List He.Fa} {fn : List He5.DefA} {ex : List Fx} {g : Addr → Option Obj} {s : Shared} (h : ∀ a, g a = s.heap.get? a) : obsWG n fa fn ex g = (hookW n fa fn ex).obs s := by
  have e : g = s.heap.get? := funext h
  rw [e] <;> rfl
/-- the def's data at f -/
def fdOf (K : Fr') (f : Addr) : FuncData := match K.lookup f with
  | some ⟨_, _, .func fd, _⟩ => fd
  | _ => PySem.W.fnOf "" "" { posonlyargs := [], args := [], vararg := none, kwonlyargs := [], kw_defaults := [], kwarg := none, defaults := [] } [] { kind := .function, names := [], isGenerator := false, isCoroutine := false } .none .none .none .none none .none .none
section
variable {fa : List He.Fa} {fn : List He5.DefA} {ex : List Fx} {K : Fr'}
theorem SaysW.b (c : SaysW fa fn ex K) : (fa.all fun f => f.ok K) = true ∧ ex.all (fun f => f K) = true ∧ (fn.all fun d => d.ok K) = true := by
  have h := congrArg (fun z : He.AlD => z.1) c
  obtain ⟨h1, h2⟩ := He.ba (show ((fa.all fun f => f.ok K) && (ex.all (fun f => f K) && fn.all fun d => d.ok K)) = true from h)
  obtain ⟨h2, h3⟩ := He.ba h2
  exact ⟨h1, h2, h3⟩
theorem SaysW.fact (c : SaysW fa fn ex K) (i : Nat) {f : He.Fa} (h : fa[i]? = some f := by rfl) : f.ok K = true := List.all_eq_true.mp c.b.1 f (List.mem_of_getElem? h)
theorem SaysW.more (c : SaysW fa fn ex K) (i : Nat) {f : Fx} (h : ex[i]? = some f := by rfl) : f K = true := List.all_eq_true.mp c.b.2.1 f (List.mem_of_getElem? h)
theorem SaysW.def_ (c : SaysW fa fn ex K) (i : Nat) {d : He5.DefA} (h : fn[i]? = some d := by rfl) : FunD K d.name d.qual d.params d.body d.scope (d.dvs K) (d.kws K) (d.at_ K) (fdOf K (d.at_ K)) := by
  have e : fn.map (fun d => He5.fnA K (d.at_ K)) = fn.map He5.DefA.val := congrArg (fun z : He.AlD => z.2) c
  have e2 : (fn.map fun d => He5.fnA K (d.at_ K))[i]? = (fn.map He5.DefA.val)[i]? := by rw [e]
  rw [List.getElem?_map, List.getElem?_map, h] at e2
  obtain ⟨fd, F⟩ := He5.DefA.funD (Option.some.inj e2) (List.all_eq_true.mp c.b.2.2 d (List.mem_of_getElem? h))
  obtain ⟨oc, od, dV, kV, doc, pm, an, cdv, ct, osl, e3, lk, r⟩ := F.ex
  have : fdOf K (d.at_ K) = fd := by
    unfold fdOf
    rw [lk]
  rw [this]
  exact F
end
/-! ### facts -/
def specB (x m : Str) : Fx := fun K => He.eqO (PySem.W.findIn K (.ref (He.ga K x)) m) (some (some (.ref (He.ma K (He.ga K x) m)))) && PySem.W.isFn K (.ref (He.ma K (He.ga K x) m))
theorem specB_ok {K : Fr'} {x m : Str} (h : specB x m K = true) : Spec1 K (He.ga K x) m (He.ma K (He.ga K x) m) := by
  obtain ⟨h1, h2⟩ := He.ba h
  exact ⟨He.eqO_ok h1, h2⟩
def propB (x f : Str) : Fx := fun K => He.eqO (PySem.W.findIn K (.ref (He.ga K x)) f) (some (some (.ref (He.ma K (He.ga K x) f)))) && (decide (PySem.W.specialIn K (.ref (He.ma K (He.ga K x) f)) "__get__" = some (some (.builtin "property.__get__"))) && (decide (PySem.W.takesIn K (.ref (He.ma K (He.ga K x) f)) = some true) && (match PySem.W.recIn K (He.ma K (He.ga K x) f) "property" with
  | some (.ref _ :: _) => true
  | _ => false)))
theorem propB_ok {K : Fr'} {x f : Str} (h : propB x f K = true) : PropOf K (He.ga K x) f (He.ma K (He.ga K x) f) (He5.wf K (He.ga K x) "property" f) := by
  obtain ⟨h1, h⟩ := He.ba h
  obtain ⟨h2, h⟩ := He.ba h
  obtain ⟨h3, h4⟩ := He.ba h
  refine ⟨He.eqO_ok h1, of_decide_eq_true h2, of_decide_eq_true h3, ?_⟩
  unfold He5.wf
  split at h4
  · rename_i f r e
    exact ⟨r, by rw [e]⟩
  · cases h4
def selfB (x : Str) : Fx := fun K => PySem.W.selfFirst K (He.ga K x)
def binB (x : Str) (nm T : String) : Fx := fun K => specB x (PySem.dunder nm) K && (selfB x K && (He.eqO (PySem.W.findIn K (.ref (He.ga K x)) (dunderR nm)) (some none) && ((PySem.W.findIn K (.type T) (PySem.dunder nm)).isSome && ((PySem.W.findIn K (.type T) (dunderR nm)).isSome && decide (PySem.W.subIn K (.type T) (.ref (He.ga K x)) = some false)))))
theorem binB_ok {K : Fr'} {x : Str} {nm T : String} (h : binB x nm T K = true) : BinT K (He.ga K x) nm T (He.ma K (He.ga K x) (PySem.dunder nm)) := by
  obtain ⟨h1, h⟩ := He.ba h
  obtain ⟨h2, h⟩ := He.ba h
  obtain ⟨h3, h⟩ := He.ba h
  obtain ⟨h4, h⟩ := He.ba h
  obtain ⟨h5, h6⟩ := He.ba h
  exact ⟨specB_ok h1, h2, He.eqO_ok h3, Option.isSome_iff_exists.mp h4, Option.isSome_iff_exists.mp h5, of_decide_eq_true h6⟩
/-- the class of an own thing, for isinstance -/
def insB (x : Str) : Fx := fun K => He.eqO (PySem.W.findIn K (.ref (He.ga K x)) "__class__") (some (some (.builtin "object.__class__"))) && (He.eqO (PySem.W.specialIn K (.builtin "object.__class__") "__get__") (some (some (.builtin "getset_descriptor.__get__"))) && (decide (PySem.W.takesIn K (.builtin "object.__class__") = some true) && (decide (PySem.W.mroIn K (He.ga K x) (.type "object") = some true) && decide (PySem.W.kitOne K (.ref (He.ga K x)) (.ref (He.ga K x)) = some true))))
theorem insB_ok {K : Fr'} {x : Str} (c : Cls K (He.ga K x)) (h : insB x K = true) : (∀ (H : Hp) (a dx : Addr) (fs : List (Str × V)), H a = some (.ins (He.ga K x) dx fs) → TyX K H (.ref a) (.ref (He.ga K x))) ∧ PySem.W.kitOne K (.ref (He.ga K x)) (.ref (He.ga K x)) = some true := by
  obtain ⟨h1, h⟩ := He.ba h
  obtain ⟨h2, h⟩ := He.ba h
  obtain ⟨h3, h⟩ := He.ba h
  obtain ⟨h4, h5⟩ := He.ba h
  exact ⟨fun H a dx fs e => .base (.ins e c (He.eqO_ok h1) (He.eqO_ok h2) (of_decide_eq_true h3) (of_decide_eq_true h4)), of_decide_eq_true h5⟩
/-- no built-in kind is of the class -/
def noB (x : Str) : Fx := fun K => KD.all fun n => decide (PySem.W.kitOne K (.type n) (.ref (He.ga K x)) = some false)
theorem noB_ok {K : Fr'} {x : Str} (h : noB x K = true) : ∀ n ∈ KD, PySem.W.kitOne K (.type n) (.ref (He.ga K x)) = some false := fun n hn => of_decide_eq_true (List.all_eq_true.mp h n hn)
/-- != by object -/
def neB (x : Str) : Fx := fun K => He.eqO (PySem.W.findIn K (.ref (He.ga K x)) "__ne__") (some (some (.builtin "object.__ne__"))) && decide (PySem.W.mroIn K (He.ga K x) (.type "object") = some true)
theorem neB_ok {K : Fr'} {x : Str} (h : neB x K = true) : NeF K (He.ga K x) := by
  obtain ⟨h1, h2⟩ := He.ba h
  exact ⟨He.eqO_ok h1, of_decide_eq_true h2⟩
/-- attributes of the class are read as usual; a classmethod of it -/
def crB (x : Str) : Fx := fun K => PySem.W.readsIn K (He.ga K x) (.type "type") && decide (PySem.W.specialIn K (.ref (He.ga K x)) "__getattribute__" = some (some (.builtin "type.__getattribute__")))
theorem crB_ok {K : Fr'} {x : Str} (h : crB x K = true) : ClX.CRead K (He.ga K x) (.type "type") := by
  obtain ⟨h1, h2⟩ := He.ba h
  exact ⟨h1, of_decide_eq_true h2⟩
def cmB (x m : Str) : Fx := fun K => He5.wrapB K (He.ga K x) "classmethod" "classmethod.__get__" m && PySem.W.fnIn K (He5.wf K (He.ga K x) "classmethod" m)
theorem cmB_ok {K : Fr'} {x m : Str} (h : cmB x m K = true) : ClX.CMet K (He.ga K x) (.type "type") m (He.ma K (He.ga K x) m) (He5.wf K (He.ga K x) "classmethod" m) := by
  obtain ⟨h1, h2⟩ := He.ba h
  exact He5.cmet_of h1 h2
/-- things of the one class are not of the other -/
def kitNB (x y : Str) : Fx := fun K => decide (PySem.W.kitOne K (.ref (He.ga K x)) (.ref (He.ga K y)) = some false)
theorem kitNB_ok {K : Fr'} {x y : Str} (h : kitNB x y K = true) : PySem.W.kitOne K (.ref (He.ga K x)) (.ref (He.ga K y)) = some false := of_decide_eq_true h
/-- no such special method -/
def nofB (x m : Str) : Fx := fun K => He.eqO (PySem.W.findIn K (.ref (He.ga K x)) m) (some none)
theorem nofB_ok {K : Fr'} {x m : Str} (h : nofB x m K = true) : PySem.W.findIn K (.ref (He.ga K x)) m = some none := He.eqO_ok h
end WB
namespace WB
open PySem PySem.Spec PyProof.Rows L2
/-- what a class must have that its instances may be called -/
def coB (x : Str) : Fx := fun K => specB x "__call__" K && PySem.W.fnIn K (He.ma K (He.ga K x) "__call__")
theorem coB_ok {K : Fr'} {x : Str} (h : coB x K = true) : StX.CallO K (He.ga K x) (He.ma K (He.ga K x) "__call__") := by
  obtain ⟨h1, h2⟩ := He.ba h
  unfold specB at h1
  obtain ⟨h3, h4⟩ := He.ba h1
  exact ⟨He.eqO_ok h3, h4, h2⟩
/-- an empty tuple -/
def tup0B (p : Fr' → Addr) : Fx := fun K => match K.lookup (p K) with
  | some ⟨.type c, _, .seq its _, _⟩ => decide (c = "tuple") && decide (its.toList = [])
  | _ => false
theorem tup0B_ok {K : Fr'} {p : Fr' → Addr} (h : tup0B p K = true) (H : Hp) : SqT K H (p K) [] := by
  unfold tup0B at h
  cases q : K.lookup (p K) with
  | none =>
    rw [q] at h
    cases h
  | some o =>
    obtain ⟨oc, od, dt, osl⟩ := o
    rw [q] at h
    cases oc with
    | type c =>
      cases dt with
      | seq its n =>
        obtain ⟨h1, h2⟩ := He.ba (show (decide (c = "tuple") && decide (its.toList = [])) = true from h)
        have h3 : its.toList = [] := of_decide_eq_true h2
        refine .inr ⟨_, its, n, q, congrArg Value.type (of_decide_eq_true h1), rfl, ?_, ?_⟩
        · rw [← Array.length_toList, h3]; exact Nat.zero_le _
        · rw [h3]; exact .nil
      | _ => cases h
    | _ => cases dt <;> cases h
end WB
namespace L2
open PySem
theorem Room.u1 {k : Nat} {A : Around} (r : Room k A) : A.units + 1 < cLine := by have := r.un; omega
theorem Room.u65 {k : Nat} {A : Around} (r : Room k A) : A.units + 65 < cLine := by have := r.un; omega
end L2
namespace WB
open PySem PySem.Spec PyProof.Rows L2
def top (i : Nat) : Stmt := PySem.Challenge.pw_wherebegun_k83_whole_rings_gone_several.main.body.getD i (.Pass ⟨0, 0, 0, 0⟩)
abbrev st_is_integer : Stmt := top 25
abbrev st_is_within : Stmt := top 26
abbrev st_is_name : Stmt := top 27
abbrev st_is_word : Stmt := top 28
abbrev st_is_row : Stmt := top 29
abbrev st_least_turning : Stmt := top 31
abbrev st_least_period : Stmt := top 32
abbrev st_Ring_init : Stmt := inClass (top 33) 0
abbrev st_Ring_stretch : Stmt := inClass (top 33) 3
abbrev st_Ring_turned : Stmt := inClass (top 33) 4
abbrev st_Ring_period : Stmt := inClass (top 33) 2
abbrev st_Ring_mul : Stmt := inClass (top 33) 12
abbrev st_check_signs : Stmt := top 35
abbrev st_lowest_terms : Stmt := top 37
abbrev st_place_of : Stmt := top 38
abbrev st_is_step : Stmt := top 39
abbrev st_is_turn : Stmt := top 40
abbrev st_check_states : Stmt := top 42
abbrev st_check_rows : Stmt := top 43
abbrev st_check_turns : Stmt := top 44
abbrev st_check_yes : Stmt := top 45
abbrev st_Loop_init : Stmt := inClass (top 49) 0
abbrev st_Loop_round_from : Stmt := inClass (top 49) 8
abbrev st_Loop_history : Stmt := inClass (top 49) 9
abbrev st_Loop_call : Stmt := inClass (top 49) 10
abbrev st_Loop_state : Stmt := inClass (top 49) 12
abbrev st_Loop_total : Stmt := inClass (top 49) 13
abbrev st_Loop_pace : Stmt := inClass (top 49) 14
abbrev st_lawP_purse : Stmt := top 51
abbrev st_lawP_pick : Stmt := top 52
abbrev st_lawP_names : Stmt := top 53
abbrev st_lawP_signs : Stmt := top 54
abbrev st_lawP_amount : Stmt := top 55
abbrev st_lawP_model : Stmt := top 56
abbrev st_lawP_loop : Stmt := top 57
abbrev st_law_right : Stmt := top 58
abbrev st_law : Stmt := top 59
def d_is_integer : He5.DefA := ⟨fun K => (He.ga K "is_integer"), "is_integer", "is_integer", defArgs st_is_integer, defBody st_is_integer, defScope st_is_integer, [], []⟩
def d_is_within : He5.DefA := ⟨fun K => (He.ga K "is_within"), "is_within", "is_within", defArgs st_is_within, defBody st_is_within, defScope st_is_within, [], []⟩
def d_is_name : He5.DefA := ⟨fun K => (He.ga K "is_name"), "is_name", "is_name", defArgs st_is_name, defBody st_is_name, defScope st_is_name, [], []⟩
def d_is_word : He5.DefA := ⟨fun K => (He.ga K "is_word"), "is_word", "is_word", defArgs st_is_word, defBody st_is_word, defScope st_is_word, [.str "abcdefghijklmnopqrstuvwxyz"], []⟩
def d_is_row : He5.DefA := ⟨fun K => (He.ga K "is_row"), "is_row", "is_row", defArgs st_is_row, defBody st_is_row, defScope st_is_row, [], []⟩
def d_least_turning : He5.DefA := ⟨fun K => (He.ga K "least_turning"), "least_turning", "least_turning", defArgs st_least_turning, defBody st_least_turning, defScope st_least_turning, [], []⟩
def d_least_period : He5.DefA := ⟨fun K => (He.ga K "least_period"), "least_period", "least_period", defArgs st_least_period, defBody st_least_period, defScope st_least_period, [], []⟩
def d_Ring_init : He5.DefA := ⟨fun K => (He.ma K (He.ga K "Ring") "__init__"), "__init__", "Ring.__init__", defArgs st_Ring_init, defBody st_Ring_init, defScope st_Ring_init, [], []⟩
def d_Ring_stretch : He5.DefA := ⟨fun K => (He.ma K (He.ga K "Ring") "stretch"), "stretch", "Ring.stretch", defArgs st_Ring_stretch, defBody st_Ring_stretch, defScope st_Ring_stretch, [], []⟩
def d_Ring_turned : He5.DefA := ⟨fun K => (He.ma K (He.ga K "Ring") "turned"), "turned", "Ring.turned", defArgs st_Ring_turned, defBody st_Ring_turned, defScope st_Ring_turned, [], []⟩
def d_Ring_period : He5.DefA := ⟨fun K => (He5.wf K (He.ga K "Ring") "property" "period"), "period", "Ring.period", defArgs st_Ring_period, defBody st_Ring_period, defScope st_Ring_period, [], []⟩
def d_Ring_mul : He5.DefA := ⟨fun K => (He.ma K (He.ga K "Ring") "__mul__"), "__mul__", "Ring.__mul__", defArgs st_Ring_mul, defBody st_Ring_mul, defScope st_Ring_mul, [], []⟩
def d_check_signs : He5.DefA := ⟨fun K => (He.ga K "check_signs"), "check_signs", "check_signs", defArgs st_check_signs, defBody st_check_signs, defScope st_check_signs, [], []⟩
def d_lowest_terms : He5.DefA := ⟨fun K => (He.ga K "lowest_terms"), "lowest_terms", "lowest_terms", defArgs st_lowest_terms, defBody st_lowest_terms, defScope st_lowest_terms, [], []⟩
def d_place_of : He5.DefA := ⟨fun K => (He.ga K "place_of"), "place_of", "place_of", defArgs st_place_of, defBody st_place_of, defScope st_place_of, [], []⟩
def d_is_step : He5.DefA := ⟨fun K => (He.ga K "is_step"), "is_step", "is_step", defArgs st_is_step, defBody st_is_step, defScope st_is_step, [], []⟩
def d_is_turn : He5.DefA := ⟨fun K => (He.ga K "is_turn"), "is_turn", "is_turn", defArgs st_is_turn, defBody st_is_turn, defScope st_is_turn, [], []⟩
def d_check_states : He5.DefA := ⟨fun K => (He.ga K "check_states"), "check_states", "check_states", defArgs st_check_states, defBody st_check_states, defScope st_check_states, [], []⟩
def d_check_rows : He5.DefA := ⟨fun K => (He.ga K "check_rows"), "check_rows", "check_rows", defArgs st_check_rows, defBody st_check_rows, defScope st_check_rows, [], []⟩
def d_check_turns : He5.DefA := ⟨fun K => (He.ga K "check_turns"), "check_turns", "check_turns", defArgs st_check_turns, defBody st_check_turns, defScope st_check_turns, [], []⟩
def d_check_yes : He5.DefA := ⟨fun K => (He.ga K "check_yes"), "check_yes", "check_yes", defArgs st_check_yes, defBody st_check_yes, defScope st_check_yes, [], []⟩
def d_Loop_init : He5.DefA := ⟨fun K => (He.ma K (He.ga K "Loop") "__init__"), "__init__", "Loop.__init__", defArgs st_Loop_init, defBody st_Loop_init, defScope st_Loop_init, [.adr (He.dflAt ("Loop", some "__init__") 0)], []⟩
def d_Loop_round_from : He5.DefA := ⟨fun K => (He.ma K (He.ga K "Loop") "round_from"), "round_from", "Loop.round_from", defArgs st_Loop_round_from, defBody st_Loop_round_from, defScope st_Loop_round_from, [], []⟩
def d_Loop_history : He5.DefA := ⟨fun K => (He.ma K (He.ga K "Loop") "history"), "history", "Loop.history", defArgs st_Loop_history, defBody st_Loop_history, defScope st_Loop_history, [], []⟩
def d_Loop_call : He5.DefA := ⟨fun K => (He.ma K (He.ga K "Loop") "__call__"), "__call__", "Loop.__call__", defArgs st_Loop_call, defBody st_Loop_call, defScope st_Loop_call, [], []⟩
def d_Loop_state : He5.DefA := ⟨fun K => (He.ma K (He.ga K "Loop") "state"), "state", "Loop.state", defArgs st_Loop_state, defBody st_Loop_state, defScope st_Loop_state, [], []⟩
def d_Loop_total : He5.DefA := ⟨fun K => (He.ma K (He.ga K "Loop") "total"), "total", "Loop.total", defArgs st_Loop_total, defBody st_Loop_total, defScope st_Loop_total, [], []⟩
def d_Loop_pace : He5.DefA := ⟨fun K => (He.ma K (He.ga K "Loop") "pace"), "pace", "Loop.pace", defArgs st_Loop_pace, defBody st_Loop_pace, defScope st_Loop_pace, [], []⟩
def d_lawP_purse : He5.DefA := ⟨fun K => (He.ga K "_law_purse"), "_law_purse", "_law_purse", defArgs st_lawP_purse, defBody st_lawP_purse, defScope st_lawP_purse, [], []⟩
def d_lawP_pick : He5.DefA := ⟨fun K => (He.ga K "_law_pick"), "_law_pick", "_law_pick", defArgs st_lawP_pick, defBody st_lawP_pick, defScope st_lawP_pick, [], []⟩
def d_lawP_names : He5.DefA := ⟨fun K => (He.ga K "_law_names"), "_law_names", "_law_names", defArgs st_lawP_names, defBody st_lawP_names, defScope st_lawP_names, [], []⟩
def d_lawP_signs : He5.DefA := ⟨fun K => (He.ga K "_law_signs"), "_law_signs", "_law_signs", defArgs st_lawP_signs, defBody st_lawP_signs, defScope st_lawP_signs, [], []⟩
def d_lawP_amount : He5.DefA := ⟨fun K => (He.ga K "_law_amount"), "_law_amount", "_law_amount", defArgs st_lawP_amount, defBody st_lawP_amount, defScope st_lawP_amount, [], []⟩
def d_lawP_model : He5.DefA := ⟨fun K => (He.ga K "_law_model"), "_law_model", "_law_model", defArgs st_lawP_model, defBody st_lawP_model, defScope st_lawP_model, [], []⟩
def d_lawP_loop : He5.DefA := ⟨fun K => (He.ga K "_law_loop"), "_law_loop", "_law_loop", defArgs st_lawP_loop, defBody st_lawP_loop, defScope st_lawP_loop, [], []⟩
def d_law_right : He5.DefA := ⟨fun K => (He.ga K "_law_right"), "_law_right", "_law_right", defArgs st_law_right, defBody st_law_right, defScope st_law_right, [], []⟩
def d_law : He5.DefA := ⟨fun K => (He.ga K "law"), "law", "law", defArgs st_law, defBody st_law, defScope st_law, [], []⟩
def fn : List He5.DefA := [d_is_integer, d_is_within, d_is_name, d_is_word, d_is_row, d_least_turning, d_least_period, d_Ring_init, d_Ring_stretch, d_Ring_turned, d_Ring_period, d_Ring_mul, d_check_signs, d_lowest_terms, d_place_of, d_is_step, d_is_turn, d_check_states, d_check_rows, d_check_turns, d_check_yes, d_Loop_init, d_Loop_round_from, d_Loop_history, d_Loop_call, d_Loop_state, d_Loop_total, d_Loop_pace, d_lawP_purse, d_lawP_pick, d_lawP_names, d_lawP_signs, d_lawP_amount, d_lawP_model, d_lawP_loop, d_law_right, d_law]
def fa : List He.Fa := [.glo "is_integer", .glo "is_within", .glo "is_name", .glo "is_word", .glo "is_row", .glo "least_turning", .glo "least_period", .glo "check_signs", .glo "lowest_terms", .glo "place_of", .glo "is_step", .glo "is_turn", .glo "check_states", .glo "check_rows", .glo "check_turns", .glo "check_yes", .glo "_law_purse", .glo "_law_pick", .glo "_law_names", .glo "_law_signs", .glo "_law_amount", .glo "_law_model", .glo "_law_loop", .glo "_law_right", .glo "law", .str "LETTERS" "abcdefghijklmnopqrstuvwxyz", .int "LONGEST_NAME" 8, .glo "Loop", .str "MARKS" "abcdefghijklmnopqrstuvwxyz0123456789", .int "MOST_ROUNDS" 99, .int "MOST_SIGNS" 4, .int "MOST_STATES" 6, .int "MOST_WORD" 600, .glo "Ring", .free "abs", .free "all", .free "bool", .free "divmod", .free "enumerate", .free "int", .free "isinstance", .free "len", .free "max", .free "min", .free "range", .free "set", .free "sorted", .free "str", .free "sum", .free "tuple", .cls "Ring", .noat "Ring" "least", .mkr "Ring", .cls "Loop", .noat "Loop" "letters", .noat "Loop" "order", .noat "Loop" "table", .noat "Loop" "ending", .noat "Loop" "marked", .mkr "Loop", .meth "Ring" "stretch", .meth "Ring" "turned", .meth "Loop" "round_from", .meth "Loop" "history", .meth "Loop" "state", .meth "Loop" "total", .meth "Loop" "pace"]
def ex : List Fx := [insB "Ring", noB "Ring", insB "Loop", noB "Loop", coB "Loop", propB "Ring" "period", binB "Ring" "mul" "int"]
def looseN : List Str := (["_wall", "WrongValue", "InvalidWord", "InvalidSigns", "InvalidNumber", "InvalidPlace", "InvalidRow", "NotARing", "NotALoop", "OtherSigns", "InvalidStates", "InvalidRows", "InvalidTurns", "NoAnswer", "TooMany"] : List Str) ++ (["MOST_SIGNS", "MOST_STATES", "MOST_WORD", "MOST_ROUNDS", "MOST_TIMES", "LETTERS", "MARKS", "LONGEST_NAME", "is_integer", "is_within", "is_name", "is_word", "is_row", "least_turning", "least_period"] : List Str) ++ (["Ring", "check_signs", "lowest_terms", "place_of", "is_step", "is_turn", "check_loop", "check_states", "check_rows", "check_turns", "check_yes", "moves", "pairs_along", "along", "Loop"] : List Str) ++ (["_law_purse", "_law_pick", "_law_names", "_law_signs", "_law_amount", "_law_model", "_law_loop", "_law_right"] : List Str)
abbrev RR : PySem.W.OpenRow := PySem.W.OpenLaw.row PySem.Challenge.rw_wherebegun_k83_whole_rings_gone_several
abbrev hk : PySem.W.Hook := hookW 6 fa fn ex
def ob (s : PySem.W.SharedT) : He.AlD := obsWG 6 fa fn ex (HandSHeadRun.getT s)
theorem ob_eq (s : PySem.W.SharedT) : ob s = hk.obs s.abs := obsWG_eq (HandSHeadRun.getT_eq s)
theorem runH (w : World) : HandSHeadRun.RunEq RR (PySem.W.view RR.prog [59]) hk ob 20000 looseN w := by
  intro os
  kernel_rfl
end WB
namespace WB
/-! ### the least of a list -/
theorem minL_spec : ∀ (xs : List (List Nat)) (x : List Nat), minL x xs ∈ x :: xs ∧ ∀ y ∈ x :: xs, minL x xs ≤ y
  | [], x => ⟨by simp [minL], fun y hy => by rw [List.mem_singleton.mp hy]; exact List.le_refl x⟩
  | z :: zs, x => by
    have e : minL x (z :: zs) = minL (if decide (z < x) = true then z else x) zs := rfl
    rw [e]
    by_cases h : z < x
    · rw [if_pos (decide_eq_true h)]
      obtain ⟨h1, h2⟩ := minL_spec zs z
      refine ⟨List.mem_cons_of_mem _ h1, fun y hy => ?_⟩
      rcases List.mem_cons.mp hy with rfl | hy
      · exact List.le_trans (h2 z List.mem_cons_self) (List.not_lt.mp fun h3 => List.lt_irrefl _ (List.lt_trans h h3))
      · exact h2 y hy
    · rw [if_neg (by simpa using h)]
      obtain ⟨h1, h2⟩ := minL_spec zs x
      refine ⟨?_, fun y hy => ?_⟩
      · rcases List.mem_cons.mp h1 with e | h1
        · rw [e]; exact List.mem_cons_self
        · exact List.mem_cons_of_mem _ (List.mem_cons_of_mem _ h1)
      · rcases List.mem_cons.mp hy with rfl | hy
        · exact h2 y List.mem_cons_self
        · rcases List.mem_cons.mp hy with rfl | hy
          · exact List.le_trans (h2 x List.mem_cons_self) (List.not_lt.mp h)
          · exact h2 y (List.mem_cons_of_mem _ hy)
/-! ### turnings -/
theorem rot_len (l : List Nat) (i : Nat) : (rot l i).length = l.length := by
  unfold rot
  rw [List.length_append, List.length_drop, List.length_take]
  omega
theorem rot_zero (l : List Nat) : rot l 0 = l := by simp [rot]
theorem rot_full (l : List Nat) : rot l l.length = l := by simp [rot]
theorem mem_rots {l y : List Nat} : y ∈ rots l ↔ ∃ i, i < l.length ∧ y = rot l i := by
  unfold rots
  rw [List.mem_map]
  constructor
  · rintro ⟨i, hi, rfl⟩; exact ⟨i, List.mem_range.mp hi, rfl⟩
  · rintro ⟨i, hi, rfl⟩; exact ⟨i, List.mem_range.mpr hi, rfl⟩
theorem rots_ne {l : List Nat} (h : l ≠ []) : rots l ≠ [] := by
  intro e
  have := congrArg List.length e
  unfold rots at this
  rw [List.length_map, List.length_range] at this
  exact h (List.length_eq_zero_iff.mp this)
theorem leastT_spec {l : List Nat} (h : l ≠ []) : leastT l ∈ rots l ∧ ∀ y ∈ rots l, leastT l ≤ y := by
  unfold leastT
  cases e : rots l with
  | nil => exact absurd e (rots_ne h)
  | cons x xs => exact minL_spec xs x
theorem leastT_rot {l : List Nat} (h : l ≠ []) : ∃ i, i < l.length ∧ leastT l = rot l i := mem_rots.mp (leastT_spec h).1
theorem leastT_len {l : List Nat} (h : l ≠ []) : (leastT l).length = l.length := by
  obtain ⟨i, _, e⟩ := leastT_rot h
  rw [e, rot_len]
theorem leastT_ne {l : List Nat} (h : l ≠ []) : leastT l ≠ [] := fun e => by
  have := leastT_len h
  rw [e] at this
  exact h (List.length_eq_zero_iff.mp this.symm)
theorem mem_rot {l : List Nat} {i c : Nat} : c ∈ rot l i ↔ c ∈ l := by
  unfold rot
  rw [List.mem_append, or_comm, ← List.mem_append, List.take_append_drop]
theorem leastT_mem {l : List Nat} (h : l ≠ []) {c : Nat} : c ∈ leastT l ↔ c ∈ l := by
  obtain ⟨i, _, e⟩ := leastT_rot h
  rw [e, mem_rot]
/-- the turning by i, then by j -/
theorem rot_rot {l : List Nat} {i j : Nat} (hi : i ≤ l.length) (hj : j ≤ l.length) : rot (rot l i) j = rot l (if i + j < l.length then i + j else i + j - l.length) := by
  unfold rot
  split
  · rename_i h
    rw [List.drop_append_of_le_length (by rw [List.length_drop]; omega), List.take_append_of_le_length (by rw [List.length_drop]; omega), List.drop_drop, List.append_assoc]
    congr 1
    rw [List.take_add]
  · rename_i h
    rw [List.drop_append, List.take_append]
    rw [List.length_drop]
    have e1 : (l.drop i).drop j = [] := List.drop_of_length_le (by rw [List.length_drop]; omega)
    have e2 : (l.drop i).take j = l.drop i := List.take_of_length_le (by rw [List.length_drop]; omega)
    rw [e1, e2, List.nil_append]
    have e3 : j - (l.length - i) = i + j - l.length := by omega
    rw [e3]
    have hk : i + j - l.length ≤ i := by omega
    generalize i + j - l.length = k at hk
    rw [← List.append_assoc, List.take_take, Nat.min_eq_left hk]
    congr 1
    rw [List.drop_take]
    conv => rhs; rw [← List.take_append_drop (i - k) (l.drop k)]
    rw [List.drop_drop]
    congr 2
    omega
theorem rots_rot {l : List Nat} {i : Nat} (hi : i < l.length) {y : List Nat} : y ∈ rots (rot l i) ↔ y ∈ rots l := by
  rw [mem_rots, mem_rots, rot_len]
  constructor
  · rintro ⟨j, hj, rfl⟩
    rw [rot_rot (by omega) (by omega)]
    split
    · exact ⟨_, by assumption, rfl⟩
    · exact ⟨_, by omega, rfl⟩
  · rintro ⟨j, hj, rfl⟩
    by_cases h : i ≤ j
    · refine ⟨j - i, by omega, ?_⟩
      rw [rot_rot (by omega) (by omega), if_pos (by omega)]
      congr 1
      omega
    · refine ⟨l.length - i + j, by omega, ?_⟩
      rw [rot_rot (by omega) (by omega), if_neg (by omega)]
      congr 1
      omega
theorem least_unique {a b : List Nat} (ha : a ≠ []) (hb : b ≠ []) (h : ∀ y, y ∈ rots a ↔ y ∈ rots b) : leastT a = leastT b := by
  obtain ⟨a1, a2⟩ := leastT_spec ha
  obtain ⟨b1, b2⟩ := leastT_spec hb
  exact List.le_antisymm (a2 _ ((h _).mpr b1)) (b2 _ ((h _).mp a1))
theorem leastT_of_rot {l : List Nat} {i : Nat} (hi : i < l.length) : leastT (rot l i) = leastT l := by
  have h : l ≠ [] := fun e => by rw [e] at hi; simp at hi
  have h2 : rot l i ≠ [] := fun e => by
    have := rot_len l i
    rw [e] at this
    simp at this
    omega
  exact least_unique h2 h fun y => rots_rot hi
theorem leastT_idem {l : List Nat} (h : l ≠ []) : leastT (leastT l) = leastT l := by
  obtain ⟨i, hi, e⟩ := leastT_rot h
  rw [e, leastT_of_rot hi, e]
/-- two parts, either way round -/
theorem rot_swap (a b : List Nat) : rot (a ++ b) a.length = b ++ a := by simp [rot]
theorem leastT_comm {a b : List Nat} (ha : a ≠ []) (hb : b ≠ []) : leastT (a ++ b) = leastT (b ++ a) := by
  have h1 : a.length < (a ++ b).length := by
    rw [List.length_append]
    have := List.length_pos_iff.mpr hb
    omega
  rw [← leastT_of_rot h1, rot_swap]
/-! ### repeating -/
theorem rep_zero (l : List Nat) : rep 0 l = [] := rfl
theorem rep_succ (k : Nat) (l : List Nat) : rep (k + 1) l = l ++ rep k l := by
  unfold rep
  rw [List.replicate_succ, List.flatten_cons]
theorem rep_one (l : List Nat) : rep 1 l = l := by rw [rep_succ, rep_zero, List.append_nil]
theorem rep_length (k : Nat) (l : List Nat) : (rep k l).length = k * l.length := by simp [rep]
theorem rep_add (j k : Nat) (l : List Nat) : rep (j + k) l = rep j l ++ rep k l := by
  unfold rep
  rw [← List.replicate_append_replicate, List.flatten_append]
theorem rep_mul (j k : Nat) (l : List Nat) : rep k (rep j l) = rep (k * j) l := by
  induction k with
  | zero => rw [Nat.zero_mul, rep_zero, rep_zero]
  | succ k ih => rw [rep_succ, ih, Nat.succ_mul, Nat.add_comm, rep_add]
theorem rep_comm (k : Nat) (l : List Nat) : rep k l ++ l = l ++ rep k l := by rw [← rep_succ, rep_add, rep_one]
theorem rep_shift (a b : List Nat) : ∀ k, rep k (a ++ b) ++ a = a ++ rep k (b ++ a)
  | 0 => by simp [rep_zero]
  | k + 1 => by
    rw [rep_succ, List.append_assoc, rep_shift a b k, rep_succ]
    simp [List.append_assoc]
theorem rep_rot {l : List Nat} {i k : Nat} (hi : i ≤ l.length) (hk : 1 ≤ k) : rot (rep k l) i = rep k (rot l i) := by
  obtain ⟨m, rfl⟩ : ∃ m, k = m + 1 := ⟨k - 1, by omega⟩
  have e : l = l.take i ++ l.drop i := (List.take_append_drop i l).symm
  have h1 : rep (m + 1) l = l.take i ++ (l.drop i ++ rep m l) := by
    rw [rep_succ]
    conv => lhs; lhs; rw [e]
    rw [List.append_assoc]
  have hl : (l.take i).length = i := by rw [List.length_take]; omega
  have h2 : rot (rep (m + 1) l) i = (l.drop i ++ rep m l) ++ l.take i := by
    rw [h1]
    have := rot_swap (l.take i) (l.drop i ++ rep m l)
    rw [hl] at this
    exact this
  rw [h2, List.append_assoc]
  have h3 : rep m l ++ l.take i = l.take i ++ rep m (rot l i) := by
    have := rep_shift (l.take i) (l.drop i) m
    rw [List.take_append_drop] at this
    exact this
  rw [h3, rep_succ]
  unfold rot
  rw [List.append_assoc]
theorem rep_rev (l : List Nat) : ∀ k, (rep k l).reverse = rep k l.reverse
  | 0 => rfl
  | k + 1 => by rw [rep_succ, List.reverse_append, rep_rev l k, rep_succ, rep_comm]
theorem rep_ne {l : List Nat} {k : Nat} (h : l ≠ []) (hk : 1 ≤ k) : rep k l ≠ [] := fun e => by
  have := rep_length k l
  rw [e] at this
  have h1 := List.length_pos_iff.mpr h
  have := Nat.mul_pos hk h1
  simp at *
  omega
/-! ### the least turning of a repeated word -/
theorem app_lt {a b : List Nat} (h : a.length = b.length) (hlt : a < b) (x y : List Nat) : a ++ x < b ++ y := by
  rcases List.lt_iff_exists.mp hlt with ⟨_, h2⟩ | ⟨i, h1, h2, h3, h4⟩
  · omega
  · refine List.lt_iff_exists.mpr (.inr ⟨i, by rw [List.length_append]; omega, by rw [List.length_append]; omega, fun j hj => ?_, ?_⟩)
    · rw [List.getElem_append_left (by omega), List.getElem_append_left (by omega)]
      exact h3 j hj
    · rw [List.getElem_append_left (by omega), List.getElem_append_left (by omega)]
      exact h4
theorem rep_le {a b : List Nat} (h : a.length = b.length) (hle : a ≤ b) (k : Nat) : rep k a ≤ rep k b := by
  by_cases e : a = b
  · rw [e]; exact List.le_refl _
  · have hlt : a < b := List.not_le.mp fun h2 => e (List.le_antisymm hle h2)
    cases k with
    | zero => exact List.le_refl _
    | succ k =>
      rw [rep_succ, rep_succ]
      exact List.not_lt.mp fun h2 => List.lt_irrefl _ (List.lt_trans (app_lt h hlt (rep k a) (rep k b)) h2)
theorem rot_mod {l : List Nat} {k : Nat} (h : l ≠ []) : ∀ i, i < k * l.length → rot (rep k l) i = rep k (rot l (i % l.length)) := by
  intro i hi
  have hn := List.length_pos_iff.mpr h
  have hk : 1 ≤ k := Nat.pos_of_ne_zero fun e => by rw [e] at hi; simp at hi
  have e : i = i / l.length * l.length + i % l.length := by
    have := Nat.div_add_mod i l.length
    rw [Nat.mul_comm] at this
    omega
  have hq : i / l.length < k := (Nat.div_lt_iff_lt_mul hn).mpr hi
  have hr := Nat.mod_lt i hn
  generalize i / l.length = q at e hq
  generalize i % l.length = r at e hr
  subst e
  have e1 : rep k l = rep q l ++ rep (k - q) l := by rw [← rep_add]; congr 1; omega
  have e2 : rot (rep k l) (q * l.length) = rep k l := by
    have h1 : (rep q l).length = q * l.length := rep_length q l
    rw [e1, ← h1, rot_swap, ← rep_add, ← rep_add]
    congr 1
    omega
  have hql : q * l.length ≤ (rep k l).length := by
    rw [rep_length]
    exact Nat.mul_le_mul_right _ (by omega)
  have hrl : r ≤ (rep k l).length := by
    rw [rep_length]
    have := Nat.le_mul_of_pos_left l.length hk
    omega
  have e3 := rot_rot hql hrl
  rw [e2, if_pos (by rw [rep_length]; omega)] at e3
  rw [← e3, rep_rot (by omega) hk]
theorem leastT_rep {l : List Nat} {k : Nat} (h : l ≠ []) (hk : 1 ≤ k) (hl : leastT l = l) : leastT (rep k l) = rep k l := by
  have hne := rep_ne h hk
  obtain ⟨h1, h2⟩ := leastT_spec hne
  refine List.le_antisymm (h2 _ (mem_rots.mpr ⟨0, List.length_pos_iff.mpr hne, (rot_zero _).symm⟩)) ?_
  obtain ⟨i, hi, e⟩ := mem_rots.mp h1
  rw [e]
  rw [rep_length] at hi
  rw [rot_mod h i hi]
  refine rep_le (by rw [rot_len]) ?_ k
  have := (leastT_spec h).2 (rot l (i % l.length)) (mem_rots.mpr ⟨_, Nat.mod_lt _ (List.length_pos_iff.mpr h), rfl⟩)
  rw [hl] at this
  exact this
/-! ### reversing -/
theorem rot_rev {l : List Nat} {i : Nat} (hi : i ≤ l.length) : (rot l i).reverse = rot l.reverse (l.length - i) := by
  unfold rot
  rw [List.reverse_append, List.drop_reverse, List.take_reverse]
  congr 2
  · congr 1; omega
  · congr 1; omega
theorem leastT_rev {l : List Nat} (h : l ≠ []) : leastT (leastT l).reverse = leastT l.reverse := by
  obtain ⟨i, hi, e⟩ := leastT_rot h
  rw [e, rot_rev (by omega)]
  by_cases h0 : i = 0
  · subst h0
    rw [Nat.sub_zero, ← List.length_reverse, rot_full]
  · exact leastT_of_rot (by rw [List.length_reverse]; omega)
theorem leastT_rep_rot {l : List Nat} {k : Nat} (h : l ≠ []) (hk : 1 ≤ k) : leastT (rep k (leastT l)) = leastT (rep k l) := by
  obtain ⟨i, hi, e⟩ := leastT_rot h
  rw [e, ← rep_rot (by omega) hk]
  exact leastT_of_rot (by rw [rep_length]; have := Nat.le_mul_of_pos_left l.length hk; omega)
/-! ### periods -/
theorem lpAux_spec (l : List Nat) : ∀ (k p : Nat), p + k = l.length → 1 ≤ p → p ≤ lpAux l p k ∧ lpAux l p k ≤ l.length ∧ rot l (lpAux l p k) = l ∧ ∀ r, p ≤ r → r < lpAux l p k → rot l r ≠ l
  | 0, p, e, _ => by
    have : p = l.length := by omega
    subst this
    exact ⟨Nat.le_refl _, Nat.le_refl _, rot_full l, fun r h1 h2 => by unfold lpAux at h2; omega⟩
  | k + 1, p, e, h1 => by
    unfold lpAux
    by_cases h : rot l p = l
    · rw [if_pos h]
      exact ⟨Nat.le_refl _, by omega, h, fun r h1 h2 => by omega⟩
    · rw [if_neg h]
      obtain ⟨a, b, c, d⟩ := lpAux_spec l k (p + 1) (by omega) (by omega)
      refine ⟨by omega, b, c, fun r hr hr2 => ?_⟩
      by_cases e : r = p
      · subst e; exact h
      · exact d r (by omega) hr2
theorem leastP_spec {l : List Nat} (h : l ≠ []) : 1 ≤ leastP l ∧ leastP l ≤ l.length ∧ rot l (leastP l) = l ∧ ∀ r, 1 ≤ r → r < leastP l → rot l r ≠ l := by
  have := List.length_pos_iff.mpr h
  exact lpAux_spec l (l.length - 1) 1 (by omega) (Nat.le_refl _)
theorem leastP_unique {l : List Nat} {p : Nat} (h : l ≠ []) (h1 : 1 ≤ p) (h2 : p ≤ l.length) (h3 : rot l p = l) (h4 : ∀ r, 1 ≤ r → r < p → rot l r ≠ l) : leastP l = p := by
  obtain ⟨a, b, c, d⟩ := leastP_spec h
  rcases Nat.lt_trichotomy (leastP l) p with z | z | z
  · exact absurd c (h4 _ a z)
  · exact z
  · exact absurd h3 (d _ h1 z)
/-- two turnings one after the other, either order -/
theorem rot_comm {l : List Nat} {i j : Nat} (hi : i ≤ l.length) (hj : j ≤ l.length) : rot (rot l i) j = rot (rot l j) i := by
  rw [rot_rot hi hj, rot_rot hj hi, Nat.add_comm]
theorem rot_inj {a b : List Nat} {i : Nat} (hl : a.length = b.length) (hi : i ≤ a.length) (h : rot a i = rot b i) : a = b := by
  have e1 := rot_rot (l := a) hi (show a.length - i ≤ a.length by omega)
  have e2 := rot_rot (l := b) (show i ≤ b.length by omega) (show a.length - i ≤ b.length by omega)
  rw [if_neg (by omega), show i + (a.length - i) - a.length = 0 by omega, rot_zero] at e1
  rw [if_neg (by omega), show i + (a.length - i) - b.length = 0 by omega, rot_zero] at e2
  rw [← e1, ← e2, h]
theorem leastP_of_rot {l : List Nat} {i : Nat} (hi : i < l.length) : leastP (rot l i) = leastP l := by
  have h : l ≠ [] := fun e => by rw [e] at hi; simp at hi
  have h2 : rot l i ≠ [] := fun e => by
    have := rot_len l i
    rw [e] at this
    simp at this
    omega
  obtain ⟨a, b, c, d⟩ := leastP_spec h
  refine leastP_unique h2 a (by rw [rot_len]; exact b) ?_ fun r h1 hr e => ?_
  · rw [rot_comm (by omega) b, c]
  · rw [rot_comm (by omega) (by omega)] at e
    exact d r h1 hr (rot_inj (by rw [rot_len]) (by rw [rot_len]; omega) e)
theorem rep_inj {a b : List Nat} {k : Nat} (hl : a.length = b.length) (hk : 1 ≤ k) (h : rep k a = rep k b) : a = b := by
  obtain ⟨m, rfl⟩ : ∃ m, k = m + 1 := ⟨k - 1, by omega⟩
  rw [rep_succ, rep_succ] at h
  exact (List.append_inj h hl).1
theorem leastP_rep {l : List Nat} {k : Nat} (h : l ≠ []) (hk : 1 ≤ k) : leastP (rep k l) = leastP l := by
  obtain ⟨a, b, c, d⟩ := leastP_spec h
  refine leastP_unique (rep_ne h hk) a ?_ ?_ fun r h1 hr e => ?_
  · rw [rep_length]
    have := Nat.le_mul_of_pos_left l.length hk
    omega
  · rw [rep_rot b hk, c]
  · rw [rep_rot (by omega) hk] at e
    exact d r h1 hr (rep_inj (by rw [rot_len]) hk e)
theorem leastP_leastT {l : List Nat} (h : l ≠ []) : leastP (leastT l) = leastP l := by
  obtain ⟨i, hi, e⟩ := leastT_rot h
  rw [e, leastP_of_rot hi]
section
open PySem PySem.Spec PyProof.Rows L2
theorem u_minRots {K : PySem.W.Frag} {H : Hp} {Q : VK} {p : Addr} {w : List Nat} (h : SqL K H p ((rots w).map vS)) (hw : w ≠ []) (k : Q (vS (leastT w)) H) : rMinS K [.ref p] H Q := by
  unfold leastT at k
  cases e : rots w with
  | nil => exact absurd e (rots_ne hw)
  | cons x xs =>
    rw [e] at h k
    exact s_minS h k
theorem Ex.drop {H H1 H2 : Hp} {p : Addr} (hp : H p = none) (a : Ex [] H H1) (b : Ex [p] H1 H2) : Ex [] H H2 := fun x o _ h => b x o (by simpa using ne_of_none h hp) (a x o (by simp) h)
end
theorem isWord_least {l : List Nat} (h : isWord l LET = true) : isWord (leastT l) LET = true := by
  have hl := isWord_len h
  have hn : l ≠ [] := fun e => by rw [e] at hl; simp at hl
  exact isWord_mk (by rw [leastT_len hn]; exact hl.1) (by rw [leastT_len hn]; exact hl.2) fun c hc => isWord_in h c ((leastT_mem hn).mp hc)
theorem isWord_ne {l s : List Nat} (h : isWord l s = true) : l ≠ [] := fun e => by
  have hl := isWord_len h
  rw [e] at hl
  simp at hl
theorem plain_word {l : List Nat} (h : isWord l LET = true) : plain l := fun c hc => by
  have := isWord_in h c hc
  have h2 : ∀ c ∈ LET, c < 55296 := by decide
  exact h2 c this
theorem isWord_rep {l : List Nat} {k : Nat} (h : isWord l LET = true) (h1 : 1 ≤ k) (h2 : k * l.length ≤ 600) : isWord (rep k l) LET = true := by
  have hl := isWord_len h
  refine isWord_mk (by rw [rep_length]; exact Nat.mul_pos h1 hl.1) (by rw [rep_length]; exact h2) fun c hc => ?_
  obtain ⟨x, hx, hc⟩ := List.mem_flatten.mp hc
  rw [List.eq_of_mem_replicate hx] at hc
  exact isWord_in h c hc
theorem isWord_app {l m : List Nat} (h : isWord l LET = true) (h2 : isWord m LET = true) (h3 : l.length + m.length ≤ 600) : isWord (l ++ m) LET = true := by
  have hl := isWord_len h
  refine isWord_mk (by rw [List.length_append]; omega) (by rw [List.length_append]; omega) fun c hc => ?_
  rcases List.mem_append.mp hc with hc | hc
  · exact isWord_in h c hc
  · exact isWord_in h2 c hc
theorem isWord_rev {l : List Nat} (h : isWord l LET = true) : isWord l.reverse LET = true := by
  have hl := isWord_len h
  exact isWord_mk (by rw [List.length_reverse]; exact hl.1) (by rw [List.length_reverse]; exact hl.2) fun c hc => isWord_in h c (List.mem_reverse.mp hc)
end WB
namespace WB
open PySem PySem.Spec PyProof.Rows L2
local macro_rules | `(tactic| walk_at "lit") => `(tactic| first | exact lit_abc | exact lit_empty)
local macro_rules | `(tactic| walk_at "nm") => `(tactic| focus first | exact List.not_mem_nil | (simp only [List.mem_singleton]; first | assumption | (exact Ne.symm (by assumption)) | (intro hz; subst hz; simp_all; done)))
local macro_rules | `(tactic| walk_at "hp") => `(tactic| first | assumption | (apply Ex.get0 (by assumption); walk_at "hp") | (apply Ex.get (by assumption); (walk_at "nm"); (walk_at "hp")))
local macro_rules | `(tactic| walk_at "sq") => `(tactic| first | assumption | (apply SqL.of; walk_at "hp") | (apply Ex.sqL (by assumption); (walk_at "nm"); (walk_at "sq")))
local macro_rules | `(tactic| walk_at "sqt") => `(tactic| first | assumption | (apply SqT.of; walk_at "hp") | (apply Ex.sqT (by assumption); (walk_at "nm"); (walk_at "sqt")))
local macro_rules | `(tactic| walk_at "sz") => `(tactic| focus ((with_reducible refine Nat.le_trans (m := 100000) ?_ (by decide)); first | omega | (simp; done) | (simp; omega)))
local macro_rules | `(tactic| walk_at "mul") => `(tactic| first | exact Or.inr ⟨by omega, by omega⟩ | exact Or.inl ⟨by omega, by omega⟩)
local macro_rules | `(tactic| walk_at "pool") => `(tactic| first | assumption | (apply PoolAt.ex (by assumption); (walk_at "nm"); (walk_at "pool")))
local macro_rules | `(tactic| walk_at "ring") => `(tactic| first | assumption | (apply RingAt.ex (by assumption); (walk_at "nm"); (walk_at "ring")))
local macro_rules | `(tactic| walk_at "st") => `(tactic| first
  | with_reducible refine s_seq ?_
  | with_reducible refine s_asg ?_
  | with_reducible refine s_gName ?_
  | with_reducible refine s_ret ?_
  | with_reducible refine s_ifS ?_
  | with_reducible refine s_next ?_
  | with_reducible refine s_op ?_
  | ((with_reducible apply s_var); exact rfl)
  | ((with_reducible apply s_cS); (walk_at "lit"))
  | with_reducible refine s_c ?_
  | with_reducible refine s_cb ?_
  | with_reducible refine s_cons ?_
  | with_reducible refine s_nil ?_
  | with_reducible refine s_un ?_
  | with_reducible refine s_call ?_
  | with_reducible refine s_test ?_
  | with_reducible refine s_tB ?_
  | with_reducible refine s_blQ ?_
  | with_reducible refine s_not ?_
  | with_reducible refine s_and ?_
  | with_reducible refine s_or ?_
  | with_reducible refine s_andV ?_
  | with_reducible refine s_orV ?_
  | with_reducible refine s_notV ?_
  | with_reducible refine s_ifE ?_
  | with_reducible refine s_chain ?_
  | ((with_reducible refine s_T ?_ ?_); (with_reducible exact rfl))
  | with_reducible refine s_nT ?_
  | with_reducible refine s_nF ?_
  | ((with_reducible refine s_F ?_ ?_); (with_reducible exact rfl))
  | ((with_reducible refine s_T ?_ ?_); assumption)
  | ((with_reducible refine s_F ?_ ?_); assumption)
  | ((with_reducible refine s_nB ?_ ?_); assumption)
  | ((with_reducible refine s_nA ?_ ?_); assumption)
  | ((with_reducible refine s_Td ?_ ?_); omega)
  | ((with_reducible refine s_Fd ?_ ?_); omega)
  | ((with_reducible refine s_nTd ?_ ?_); omega)
  | ((with_reducible refine s_nFd ?_ ?_); omega)
  | with_reducible refine s_sfld ?_
  | with_reducible refine s_addI ?_
  | with_reducible refine s_subI ?_
  | ((with_reducible refine s_mulI ?_ ?_); (walk_at "mul"))
  | ((with_reducible refine s_divI ?_ ?_); exact ⟨by omega, by omega⟩)
  | ((with_reducible refine s_modI ?_ ?_); omega)
  | ((with_reducible refine s_powI ?_ ?_); exact ⟨by decide, by decide, by decide⟩)
  | with_reducible refine s_ltI ?_
  | with_reducible refine s_leI ?_
  | with_reducible refine s_gtI ?_
  | with_reducible refine s_geI ?_
  | with_reducible refine s_negI ?_
  | with_reducible refine s_absI ?_
  | with_reducible refine s_intI ?_
  | with_reducible refine s_min2 ?_
  | with_reducible refine s_max2 ?_
  | with_reducible refine s_eqI ?_
  | with_reducible refine s_neI ?_
  | with_reducible refine s_eqS ?_
  | with_reducible refine s_neS ?_
  | with_reducible refine s_inSg ?_
  | with_reducible refine s_notInSg ?_
  | ((with_reducible refine s_addS ?_ ?_); (walk_at "sz"))
  | ((with_reducible refine s_lenS ?_ ?_); (walk_at "sz"))
  | ((with_reducible apply s_lenL); (walk_at "sq"))
  | ((with_reducible apply s_lenT); (walk_at "sqt"))
  | ((with_reducible apply s_ixL); (walk_at "sq"); exact rfl)
  | ((with_reducible apply s_ixT); (walk_at "sqt"); exact rfl)
  | with_reducible refine s_gSub ?_
  | ((with_reducible apply s_setL); (walk_at "hp"); (exact rfl); (intro _ _ _))
  | ((with_reducible refine s_alloc ?_ ?_); (walk_at "sz"); (intro _ _ _ _ _))
  | ((with_reducible refine s_divmod ?_ ?_); (exact ⟨by omega, PyProof.noPylong_small (by omega)⟩); (intro _ _ _ _ _))
  | ((with_reducible apply s_gTup); (walk_at "sqt"); (exact rfl))
  | ((with_reducible apply s_gLst); (walk_at "sq"); (exact rfl))
  | with_reducible refine s_gCons ?_
  | with_reducible refine s_gNil ?_
  | with_reducible refine s_lc ?_
  | ((with_reducible apply s_cat); (walk_at "hp"); (walk_at "hp"); (walk_at "sz"); (intro _ _ _ _ _))
  | ((with_reducible apply s_slL); (walk_at "sq"); (intro _ _ _ _ _))
  | with_reducible refine s_for ?_
  | with_reducible refine s_rng1 ?_
  | ((with_reducible refine s_rng1i ?_ ?_); (constructor <;> omega))
  | with_reducible refine s_rng2 ?_
  | ((with_reducible refine s_rng2i ?_ ?_); (refine ⟨?_, ?_, ?_, ?_⟩ <;> omega))
  | with_reducible refine s_iStr ?_
  | with_reducible refine s_iStrS ?_
  | with_reducible refine s_iList ?_
  | ((with_reducible apply s_iListA); (walk_at "sq"))
  | with_reducible refine s_iTup ?_
  | ((with_reducible apply s_iTupA); (walk_at "sqt"))
  | with_reducible refine s_sl ?_
  | with_reducible refine s_noPart ?_
  | with_reducible refine s_part ?_
  | with_reducible refine s_int1 ?_
  | ((with_reducible refine s_slS ?_ ?_); (walk_at "sz"))
  | with_reducible refine s_tup ?_
  | with_reducible refine s_lst ?_
  | with_reducible refine s_par ?_
  | with_reducible refine s_pair ?_
  | with_reducible refine s_M1 ?_
  | with_reducible refine s_isStr ?_
  | with_reducible refine s_revS ?_
  | ((with_reducible refine s_revS1 ?_ ?_); (walk_at "sz"))
  | with_reducible refine s_fldE ?_
  | with_reducible refine s_propE ?_
  | ((with_reducible refine u_draw ?_ ?_ ?_ ?_); omega; omega; (walk_at "pool"); (intro _ _ _ _ _ _))
  | ((with_reducible refine u_pool ?_); (intro _ _ _ _ _))
  | with_reducible refine u_is_integer ?_
  | with_reducible refine s_isiII ?_
  | with_reducible refine s_isiIB ?_
  | with_reducible refine s_isiSS ?_
  | ((with_reducible apply u_fldRing); assumption; (walk_at "ring"))
  | ((with_reducible apply u_textP); (walk_at "ring"))
  | ((with_reducible apply u_strRing); (walk_at "ring"))
  | ((with_reducible apply u_eqRing); (walk_at "ring"); (walk_at "ring"))
  | ((with_reducible apply u_isiRing); assumption; (walk_at "ring"))
  | ((with_reducible refine u_is_word ?_ ?_); omega; (intro _ _))
  | ((with_reducible refine u_turnings ?_ ?_); omega; (intro _ _ _ _ _))
  | with_reducible refine s_makeE ?_
  | with_reducible refine s_methE ?_)
local macro_rules | `(tactic| walk_at "go") => `(tactic| repeat (walk_at "st"))
local macro_rules | `(tactic| walk_at "exs") => `(tactic| first | exact Ex.rfl | assumption | (apply Ex.snoc (by assumption); walk_at "exs") | (apply Ex.snocW (by assumption); walk_at "exs"))
/-- is_integer: 0 value -/
def t_is_integer (K : PySem.W.Frag) : TS :=
  (tRet (tAndV (tCB (rIsi K) (tCons (tVar 0) (tCons (tC (.ty "int")) tNil))) (tNotV (tCB (rIsi K) (tCons (tVar 0) (tCons (tC (.ty "bool")) tNil))))))
/-- is_word: 0 value 1 signs 2 sign -/
def t_is_word (K : PySem.W.Frag) : TS :=
  (tSeq (tIfS (tOr (tNot (tB (tCB (rIsi K) (tCons (tVar 0) (tCons (tC (.ty "str")) tNil))))) (tNot (tTest (tChain rLeI rLeI (tC (.int 1)) (tCB (rLenV K) (tCons (tVar 0) tNil)) (tC (.int 600)))))) (tRet (tC (.bl false))) tNext)
  (tRet (tCB (rAll K) (tCons (tLc (iStr (tVar 0)) (gName 2) tYes (tOp rInSg (tVar 2) (tVar 1)) [2]) tNil))))
/-- least_turning: 0 text 1 place -/
def t_least_turning (K : PySem.W.Frag) : TS :=
  (tRet (tCB (rMinS K) (tCons (tLc (iRng1 (tCons (tCB (rLenV K) (tCons (tVar 0) tNil)) tNil)) (gName 1) tYes (tOp rAddS (tSl rSlS (tVar 0) (tPart (tVar 1)) tNoPart) (tSl rSlS (tVar 0) tNoPart (tPart (tVar 1)))) [1]) tNil)))
/-- least_period: 0 text 1 period -/
def t_least_period (K : PySem.W.Frag) : TS :=
  (tSeq (tFor (iRng2 (tCons (tC (.int 1)) (tCons (tCB (rLenV K) (tCons (tVar 0) tNil)) tNil))) (gName 1) (tIfS (tTest (tOp rEq (tOp rAddS (tSl rSlS (tVar 0) (tPart (tVar 1)) tNoPart) (tSl rSlS (tVar 0) tNoPart (tPart (tVar 1)))) (tVar 0))) (tRet (tVar 1)) tNext))
  (tRet (tCB (rLenV K) (tCons (tVar 0) tNil))))
/-- Ring.__init__: 0 self 1 text -/
def t_Ring_init (K : PySem.W.Frag) : TS :=
  (tSeq (tIfS (tNot (tB (tCall (sp_is_word K) [(vS LET)] E0 (tCons (tVar 1) tNil)))) tNever tNext)
  (sFld K (tVar 0) (tCall (sp_least_turning K) [] E0 (tCons (tVar 1) tNil)) "least"))
/-- Ring.text: 0 self -/
def t_Ring_text (K : PySem.W.Frag) : TS :=
  (tRet (tFld K (tVar 0) "least"))
/-- Ring.period: 0 self -/
def t_Ring_period (K : PySem.W.Frag) : TS :=
  (tRet (tCall (sp_least_period K) [] E0 (tCons (tFld K (tVar 0) "least") tNil)))
/-- Ring.__str__: 0 self -/
def t_Ring_str (K : PySem.W.Frag) : TS :=
  (tRet (tCB rStrS (tCons (tFld K (tVar 0) "least") tNil)))
/-- Ring.__len__: 0 self -/
def t_Ring_len (K : PySem.W.Frag) : TS :=
  (tRet (tCB (rLenV K) (tCons (tFld K (tVar 0) "least") tNil)))
/-- Ring.__eq__: 0 self 1 other -/
def t_Ring_eq (K : PySem.W.Frag) : TS :=
  (tRet (tAndV (tCB (rIsi K) (tCons (tVar 1) (tCons (tC (.ref (He.ga K "Ring"))) tNil))) (tOp rEq (tFld K (tVar 0) "least") (tFld K (tVar 1) "least"))))
/-- Ring.__invert__: 0 self -/
def t_Ring_invert (K : PySem.W.Frag) : TS :=
  (tRet (tMake (He.ga K "Ring") (sp_Ring_init K) [] E0 (tCons (tRevS (tFld K (tVar 0) "least")) tNil)))
/-- Ring.__mul__: 0 self 1 times -/
def t_Ring_mul (K : PySem.W.Frag) : TS :=
  (tSeq (tIfS (tOr (tNot (tB (tCall (sp_is_integer K) [] E0 (tCons (tVar 1) tNil)))) (tTest (tOp rLtI (tVar 1) (tC (.int 1))))) tNever tNext)
  (tSeq (tIfS (tTest (tOp rGtI (tOp rMulI (tCB (rLenV K) (tCons (tFld K (tVar 0) "least") tNil)) (tVar 1)) (tC (.int 600)))) tNever tNext)
  (tRet (tMake (He.ga K "Ring") (sp_Ring_init K) [] E0 (tCons (tOp rMulS (tFld K (tVar 0) "least") (tVar 1)) tNil)))))
/-- Ring.__add__: 0 self 1 other -/
def t_Ring_add (K : PySem.W.Frag) : TS :=
  (tSeq (tIfS (tNot (tB (tCB (rIsi K) (tCons (tVar 1) (tCons (tC (.ref (He.ga K "Ring"))) tNil))))) tNever tNext)
  (tSeq (tIfS (tTest (tOp rGtI (tOp rAddI (tCB (rLenV K) (tCons (tFld K (tVar 0) "least") tNil)) (tCB (rLenV K) (tCons (tFld K (tVar 1) "least") tNil))) (tC (.int 600)))) tNever tNext)
  (tRet (tMake (He.ga K "Ring") (sp_Ring_init K) [] E0 (tCons (tOp rAddS (tFld K (tVar 0) "least") (tFld K (tVar 1) "least")) tNil)))))
/-- _law_cell: 0 _law_script 1 _law_k 2 _law_mixed 3 _law_cell_here -/
def t_law_cell (K : PySem.W.Frag) : TS :=
  (tSeq (tIfS (tTest (tOp rLtI (tVar 1) (tCB (rLenV K) (tCons (tVar 0) tNil)))) (tRet (tOp (rIxL K) (tVar 0) (tVar 1))) tNext)
  (tSeq (tAsg (tOp rAddI (tC (.int 70001)) (tOp rMulI (tOp rMulI (tC (.int 4093)) (tVar 1)) (tVar 1))) (gName 2))
  (tSeq (tFor (iList K (tSl (rSlL K) (tVar 0) tNoPart (tPart (tC (.int 4))))) (gName 3) (tAsg (tOp rModI (tCB rIntI (tCons (tOp rAddI (tOp rMulI (tVar 2) (tC (.int 521))) (tVar 3)) tNil)) (tC (.int 2147483629))) (gName 2)))
  (tRet (tVar 2)))))
/-- _law_pool: 0 _law_cell_here 1 _law_digits -/
def t_law_pool (K : PySem.W.Frag) : TS :=
  (tSeq (tAsg (tIf (tOr (tTest (tOp rLtI (tVar 0) (tC (.int 0)))) (tTest (tOp rGeI (tVar 0) (tOp rPowI (tC (.int 10)) (tC (.int 18)))))) (tCB rAbsI (tCons (tVar 0) tNil)) (tC (.int 0))) (gName 1))
  (tRet (tLst (tCons (tOp rModI (tCB rIntI (tCons (tVar 0) tNil)) (tC (.int 2147483587))) (tCons (tVar 1) (tCons (tC (.int 0)) tNil))))))
/-- _law_draw: 0 _law_pool_here 1 _law_many 2 _law_mixed 3 _law_digit -/
def t_law_draw (K : PySem.W.Frag) : TS :=
  (tSeq (tAsg (tOp rAddI (tOp (rIxL K) (tVar 0) (tC (.int 2))) (tC (.int 1))) (gSub (tVar 0) (tC (.int 2)) rSetL))
  (tSeq (tAsg (tOp rModI (tCB rIntI (tCons (tOp rAddI (tOp rAddI (tOp rMulI (tOp (rIxL K) (tVar 0) (tC (.int 0))) (tC (.int 50021))) (tOp rMulI (tOp (rIxL K) (tVar 0) (tC (.int 2))) (tC (.int 69067)))) (tC (.int 31))) tNil)) (tC (.int 2147483587))) (gName 2))
  (tSeq (tAsg (tOp rModI (tCB rIntI (tCons (tOp rMulI (tVar 2) (tOp rAddI (tOp rDivI (tVar 2) (tC (.int 1024))) (tC (.int 12829)))) tNil)) (tC (.int 2147483629))) (gSub (tVar 0) (tC (.int 0)) rSetL))
  (tSeq (tIfS (tTest (tOp rGtI (tOp (rIxL K) (tVar 0) (tC (.int 1))) (tC (.int 0)))) (tSeq (tAsg (tCB rDivmod (tCons (tOp (rIxL K) (tVar 0) (tC (.int 1))) (tCons (tVar 1) tNil))) (gTup K 2 (gCons (gSub (tVar 0) (tC (.int 1)) rSetL) (gCons (gName 3) gNil))))
  (tRet (tVar 3))) tNext)
  (tRet (tOp rModI (tCB rIntI (tCons (tOp rDivI (tOp (rIxL K) (tVar 0) (tC (.int 0))) (tC (.int 53))) tNil)) (tVar 1)))))))
/-- _law_signs: 0 _law_pool_here 1 _law_most 2 _law_found 3 _law_turn 4 _law_rest 5 _law_mark -/
def t_law_signs (K : PySem.W.Frag) : TS :=
  (tSeq (tAsg (tC (.str "")) (gName 2))
  (tSeq (tFor (iRng1 (tCons (tOp rAddI (tC (.int 1)) (tCall (sp_law_draw K) [] E0 (tCons (tVar 0) (tCons (tVar 1) tNil)))) tNil)) (gName 3) (tSeq (tAsg (tLc (iStr (tC (.str "abcdefghijklmnopqrstuvwxyz"))) (gName 5) (tTest (tOp rNotInSg (tVar 5) (tVar 2))) (tVar 5) [5]) (gName 4))
  (tAsg (tOp rAddS (tVar 2) (tOp (rIxL K) (tVar 4) (tCall (sp_law_draw K) [] E0 (tCons (tVar 0) (tCons (tCB (rLenV K) (tCons (tVar 4) tNil)) tNil))))) (gName 2))))
  (tRet (tVar 2))))
/-- _law_word: 0 _law_pool_here 1 _law_abc 2 _law_most 3 _law_turn -/
def t_law_word (K : PySem.W.Frag) : TS :=
  (tRet (tM1 (rJoin K) (tC (.str "")) (tLc (iRng1 (tCons (tOp rAddI (tC (.int 1)) (tCall (sp_law_draw K) [] E0 (tCons (tVar 0) (tCons (tVar 2) tNil)))) tNil)) (gName 3) tYes (tOp rIxS (tVar 1) (tCall (sp_law_draw K) [] E0 (tCons (tVar 0) (tCons (tCB (rLenV K) (tCons (tVar 1) tNil)) tNil)))) [3])))
/-- _law_turnings: 0 _law_word_here 1 _law_at -/
def t_law_turnings (K : PySem.W.Frag) : TS :=
  (tRet (tLc (iRng1 (tCons (tCB (rLenV K) (tCons (tVar 0) tNil)) tNil)) (gName 1) tYes (tOp rAddS (tSl rSlS (tVar 0) (tPart (tVar 1)) tNoPart) (tSl rSlS (tVar 0) tNoPart (tPart (tVar 1)))) [1]))
abbrev E1 (Q : VK) : Ends := ⟨fun _ H' => Q .non H', Q, fun _ _ => False, fun _ _ => False⟩
section
variable {K : PySem.W.Frag} {vs : List V} {H : Hp} {Q : VK} {E : XK}
theorem pure_law_draw (h : sp_law_draw K vs H Q E) : t_law_draw K (E1 Q) (start ["_law_pool_here", "_law_many", "_law_mixed", "_law_digit"] vs) H := by
  obtain ⟨a, m, rfl, h0, h1, ⟨x, y, z, hp⟩, k⟩ := h
  show t_law_draw K (E1 Q) [some (.ref a), some (.int m), none, none] H
  unfold t_law_draw
  walk_at "go"
  refine s_2 (fun hb => ?_) (fun hb => ?_)
  · walk_at "go"
    exact k _ _ (Int.emod_nonneg _ (by omega)) (Int.emod_lt_of_pos _ h0) (by walk_at "exs") ⟨_, _, _, by walk_at "hp"⟩
  · walk_at "go"
    exact k _ _ (Int.emod_nonneg _ (by omega)) (Int.emod_lt_of_pos _ h0) (by walk_at "exs") ⟨_, _, _, by walk_at "hp"⟩
theorem pure_law_pool (h : sp_law_pool K vs H Q E) : t_law_pool K (E1 Q) (start ["_law_cell_here", "_law_digits"] vs) H := by
  obtain ⟨c, rfl, k⟩ := h
  show t_law_pool K (E1 Q) [some (.int c), none] H
  unfold t_law_pool
  walk_at "go"
  refine s_2 (fun hb => ?_) (fun hb => ?_)
  · walk_at "go"
    exact k _ _ (by assumption) (by walk_at "exs") ⟨_, _, _, by walk_at "hp"⟩
  · walk_at "go"
    refine s_2 (fun hb => ?_) (fun hb => ?_)
    · walk_at "go"
      exact k _ _ (by assumption) (by walk_at "exs") ⟨_, _, _, by walk_at "hp"⟩
    · walk_at "go"
      exact k _ _ (by assumption) (by walk_at "exs") ⟨_, _, _, by walk_at "hp"⟩
theorem pure_law_cell (h : sp_law_cell K vs H Q E) : t_law_cell K (E1 Q) (start ["_law_script", "_law_k", "_law_mixed", "_law_cell_here"] vs) H := by
  obtain ⟨a, ns, n, rfl, hs, hl, h0, h1, k⟩ := h
  show t_law_cell K (E1 Q) [some (.ref a), some (.int n), none, none] H
  unfold t_law_cell
  walk_at "go"
  refine s_2 (fun hb => ?_) (fun hb => ?_)
  · have hb := of_decide_eq_true hb
    rw [List.length_map] at hb
    have hx : ns[n.toNat]? = some (ns[n.toNat]'(by omega)) := List.getElem?_eq_getElem _
    walk_at "go"
    refine s_ixL hs (atI_of h0 (by rw [List.getElem?_map, hx]; rfl)) ?_
    exact k _ _ Ex.rfl
  · walk_at "go"
    rename_i p H2 hp e2 h2
    refine for_run walk_list (fun i σ H1 => ∃ (c : Int) (x : Option V), σ = [some (.ref a), some (.int n), some (.int c), x] ∧ Ex [] H H1 ∧ H1 p = some (.lst (cutV (ns.map V.int) none (some 4)))) ⟨_, none, rfl, e2, h2⟩ (fun i σ H1 _ ⟨_, _, _, _, h⟩ => SqL.of h) ?_ ?_
    · rintro i x σ H1 H3 hi ⟨c, y, rfl, e, hc⟩ ⟨rfl, hx⟩
      obtain ⟨z, _, rfl⟩ := List.mem_map.mp (mem_cutV (List.mem_of_getElem? hx))
      walk_at "go"
      exact ⟨_, _, rfl, e, hc⟩
    · rintro σ H1 ⟨c, y, rfl, e, hc⟩
      walk_at "go"
      exact k _ _ e
theorem pure_law_turnings (h : sp_law_turnings K vs H Q E) : t_law_turnings K (E1 Q) (start ["_law_word_here", "_law_at"] vs) H := by
  obtain ⟨l, rfl, hl, k⟩ := h
  show t_law_turnings K (E1 Q) [some (vS l), none] H
  unfold t_law_turnings
  walk_at "go"
  refine lc_mapR (by omega) (fun i => vS (rot l i)) (fun i H1 C hi e kk => ?_) (fun D H' hD e hd => k D H' hD e ?_)
  · walk_at "go"
    rw [cut_from (by omega), cut_to (by omega), show ((0 : Int) + (i : Int)).toNat = i by omega]
    refine s_addS ?_ (kk _ Ex.rfl)
    rw [List.length_drop, List.length_take]
    walk_at "sz"
  · rw [hd]
    unfold rots
    rw [List.map_map, Int.toNat_natCast]
    rfl
end
section
variable {K : PySem.W.Frag} {vs : List V} {H : Hp} {Q : VK} {E : XK}
theorem four_left {l : List Nat} (h : l.length ≤ 3) : (LET.filter fun c => !decide (c ∈ l)) ≠ [] := by
  intro e
  have h1 : ∀ c ∈ LET, c ∈ l := fun c hc => by
    rcases Classical.em (c ∈ l) with z | z
    · exact z
    · have : c ∈ LET.filter fun c => !decide (c ∈ l) := List.mem_filter.mpr ⟨hc, by simp [z]⟩
      rw [e] at this
      cases this
  have a := h1 97 (by decide)
  have b := h1 98 (by decide)
  have c := h1 99 (by decide)
  have d := h1 100 (by decide)
  match l, h with
  | [], _ => cases a
  | [x], _ => simp at a b; omega
  | [x, y], _ => simp at a b c; omega
  | [x, y, z], _ => simp at a b c d; omega
theorem pure_law_signs (h : sp_law_signs K vs H Q E) : t_law_signs K (E1 Q) (start ["_law_pool_here", "_law_most", "_law_found", "_law_turn", "_law_rest", "_law_mark"] vs) H := by
  obtain ⟨a, m, rfl, h0, h1, hp, k⟩ := h
  show t_law_signs K (E1 Q) [some (.ref a), some (.int m), none, none, none, none] H
  unfold t_law_signs
  walk_at "go"
  rename_i r H1 r0 r1 e1 p1
  refine for_run walk_range (fun i σ H2 => ∃ (f : List Nat) (x y z : Option V), σ = [some (.ref a), some (.int m), some (vS f), x, y, z] ∧ f.length = i ∧ (∀ c ∈ f, c ∈ LET) ∧ f.Nodup ∧ Ex [a] H H2 ∧ PoolAt H2 a) ⟨[], none, none, none, rfl, rfl, by simp, by simp, e1, p1⟩ (fun _ _ _ _ _ => trivial) ?_ ?_
  · rintro i x σ H2 H3 hi ⟨f, y, z, u, rfl, hf, hs, hd, e2, p2⟩ ⟨rfl, rfl⟩
    walk_at "go"
    refine lc_mapS (by decide) (fun c => !decide (c ∈ f)) (fun c => vS [c]) (fun c H4 C1 C0 hc e4 k1 k0 => ?_) (fun D H4 hD e4 hd4 => ?_)
    · walk_at "go"
      refine s_2 (fun hb => ?_) (fun hb => ?_)
      · walk_at "go"
        exact k1 _ Ex.rfl hb
      · exact k0 _ Ex.rfl hb
    · walk_at "go"
      have hne : D ≠ a := fun z => p2.there (z ▸ hD)
      have hL : (LET.filter fun c => !decide (c ∈ f)) ≠ [] := four_left (by omega)
      have hm : ∀ c ∈ (LET.filter fun c => !decide (c ∈ f)), c ∈ LET ∧ c ∉ f := fun c hc => by
        obtain ⟨h1, h2⟩ := List.mem_filter.mp hc
        exact ⟨h1, by simpa using h2⟩
      have hz : (LET.filter fun c => !decide (c ∈ f)).length ≤ 26 := List.length_filter_le _ _
      revert hd4 hL hm hz
      generalize (LET.filter fun c => !decide (c ∈ f)) = L
      intro hd4 hL hm hz
      have h0L : 0 < L.length := List.length_pos_iff.mpr hL
      rw [List.length_map]
      walk_at "go"
      rename_i r2 H5 r20 r21 e5 p5
      obtain ⟨c, hc⟩ : ∃ c, L[r2.toNat]? = some c := ⟨_, List.getElem?_eq_getElem (by omega)⟩
      refine s_ixL (xs := L.map fun c => vS [c]) (by walk_at "sq") (atI_of r20 (by rw [List.getElem?_map, hc]; rfl)) ?_
      obtain ⟨c1, c2⟩ := hm c (List.mem_of_getElem? hc)
      walk_at "go"
      refine ⟨f ++ [c], _, _, _, rfl, by rw [List.length_append, hf]; rfl, fun x hx => ?_, ?_, by walk_at "exs", p5⟩
      · rcases List.mem_append.mp hx with hx | hx
        · exact hs x hx
        · rw [List.mem_singleton.mp hx]; exact c1
      · exact List.nodup_append.mpr ⟨hd, by simp, fun x hx y hy => by rw [List.mem_singleton.mp hy]; intro z; exact c2 (z ▸ hx)⟩
  · rintro σ H2 ⟨f, y, z, u, rfl, hf, hs, hd, e2, p2⟩
    walk_at "go"
    refine k f _ ?_ ?_ hs hd e2 p2
    · intro e
      subst e
      simp at hf
      omega
    · rw [hf]; omega
theorem pure_law_word (h : sp_law_word K vs H Q E) : t_law_word K (E1 Q) (start ["_law_pool_here", "_law_abc", "_law_most", "_law_turn"] vs) H := by
  obtain ⟨a, abc, m, rfl, ha, hl, h0, h1, hp, k⟩ := h
  show t_law_word K (E1 Q) [some (.ref a), some (vS abc), some (.int m), none] H
  unfold t_law_word
  walk_at "go"
  rename_i r H1 r0 r1 e1 p1
  have hal : 0 < abc.length := List.length_pos_iff.mpr ha
  refine lc_run walk_range (by omega) [a] (fun H2 => PoolAt H2 a) (fun i acc _ => ∃ ls : List Nat, acc = ls.map (fun c => vS [c]) ∧ ls.length = i ∧ ∀ c ∈ ls, c ∈ abc) (fun b hb => by rw [List.mem_singleton.mp hb]; exact p1.there) p1 ⟨[], rfl, rfl, by simp⟩
    (fun H2 D o n h => h.upd n) (fun _ _ _ _ _ _ h => h) (fun _ _ => trivial) ?_ ?_
  · rintro i acc x H2 H3 C1 C0 hi e2 p2 ⟨ls, rfl, hls, hin⟩ ⟨rfl, rfl⟩ k1 k0
    refine ⟨wipe1 _ _ _, ?_⟩
    refine s_yes ?_
    walk_at "go"
    rename_i r2 H5 r20 r21 e5 p5
    obtain ⟨c, hc⟩ : ∃ c, abc[r2.toNat]? = some c := ⟨_, List.getElem?_eq_getElem (by omega)⟩
    refine s_ixS (by walk_at "sz") (atI_of r20 hc) ?_
    refine k1 _ _ e5 p5 ⟨ls ++ [c], by rw [List.map_append]; rfl, by rw [List.length_append, hls]; rfl, fun x hx => ?_⟩
    rcases List.mem_append.mp hx with hx | hx
    · exact hin x hx
    · rw [List.mem_singleton.mp hx]; exact List.mem_of_getElem? hc
  · rintro D H2 ys hD e2 p2 hd hyl ⟨ls, rfl, hls, hin⟩
    have hfl := flat1 ls
    refine s_join0 (ls := ls.map fun c => [c]) ?_ (by rw [hfl]; omega) ?_
    · rw [List.map_map]; exact SqL.of hd
    · rw [hfl]
      refine k ls _ ?_ (by rw [hls]; omega) hin (by walk_at "exs") p2
      intro e
      subst e
      simp at hls
      omega
end
section
variable {K : PySem.W.Frag} {vs : List V} {H : Hp} {Q : VK} {E : XK}
theorem pure_is_integer (h : sp_is_integer K vs H Q E) : t_is_integer K (E1 Q) (start ["value"] vs) H := by
  obtain ⟨v, n, rfl, hk, k⟩ := h
  show t_is_integer K (E1 Q) [some v] H
  unfold t_is_integer
  walk_at "go"
  have hn := hk.2
  simp only [KD, List.mem_cons, List.not_mem_nil, or_false] at hn
  rcases hn with rfl | rfl | rfl | rfl | rfl | rfl | rfl
  · refine s_isiK hk (b := true) (by decide +kernel) ?_
    walk_at "go"
    refine s_isiK hk (b := false) (by decide +kernel) ?_
    walk_at "go"
    exact k
  · refine s_isiK hk (b := true) (by decide +kernel) ?_
    walk_at "go"
    refine s_isiK hk (b := true) (by decide +kernel) ?_
    walk_at "go"
    exact k
  all_goals
    refine s_isiK hk (b := false) (by decide +kernel) ?_
    walk_at "go"
    exact k
theorem pure_is_word (h : sp_is_word K vs H Q E) : t_is_word K (E1 Q) (start ["value", "signs", "sign"] vs) H := by
  obtain ⟨v, s, rfl, h⟩ := h
  show t_is_word K (E1 Q) [some v, some (vS s), none] H
  unfold t_is_word
  rcases h with ⟨l, rfl, hl, k⟩ | ⟨n, hk, hn, k⟩
  rotate_left
  · walk_at "go"
    have hb := kitB_str hk.2 hn
    refine s_isiK hk (b := false) hb ?_
    walk_at "go"
    exact k
  walk_at "go"
  refine s_2 (fun hb => ?_) (fun hb => ?_)
  · have hb := of_decide_eq_true hb
    walk_at "go"
    refine s_2 (fun hb2 => ?_) (fun hb2 => ?_)
    · have hb2 : ¬ (l.length : Int) ≤ 600 := by simpa using hb2
      walk_at "go"
      have e : isWord l s = false := by
        unfold isWord
        rw [decide_eq_false (by omega)]
        rfl
      rw [← e]
      exact k _ Ex.rfl
    · have hb2 : (l.length : Int) ≤ 600 := by simpa using hb2
      walk_at "go"
      refine lc_mapS (by omega) (fun _ => true) (fun c => .bl (decide (c ∈ s))) (fun c H4 C1 C0 hc e4 k1 k0 => ?_) (fun D H4 hD e4 hd4 => ?_)
      · refine s_yes ?_
        walk_at "go"
        exact k1 _ Ex.rfl rfl
      · walk_at "go"
        have e : isWord l s = ((l.filter fun _ => true).map fun c => decide (c ∈ s)).all id := by
          unfold isWord
          rw [decide_eq_true (by omega), Bool.true_and, List.all_map, List.filter_eq_self.mpr (by simp)]
          rfl
        refine s_all (bs := (l.filter fun _ => true).map fun c => decide (c ∈ s)) ?_ ?_
        · rw [List.map_map]
          exact SqL.of hd4
        · rw [← e]
          exact k _ e4
  · have hb : ¬ 1 ≤ (l.length : Int) := of_decide_eq_false hb
    refine s_blQ ?_
    walk_at "go"
    have e : isWord l s = false := by
      unfold isWord
      rw [decide_eq_false (by omega)]
      rfl
    rw [← e]
    exact k _ Ex.rfl
theorem pure_least_turning (h : sp_least_turning K vs H Q E) : t_least_turning K (E1 Q) (start ["text", "place"] vs) H := by
  obtain ⟨l, rfl, h0, hl, k⟩ := h
  show t_least_turning K (E1 Q) [some (vS l), none] H
  unfold t_least_turning
  walk_at "go"
  refine lc_mapR (by omega) (fun i => vS (rot l i)) (fun i H1 C hi e kk => ?_) (fun D H' hD e hd => ?_)
  · walk_at "go"
    rw [cut_from (by omega), cut_to (by omega), show ((0 : Int) + (i : Int)).toNat = i by omega]
    refine s_addS ?_ (kk _ Ex.rfl)
    rw [List.length_drop, List.length_take]
    walk_at "sz"
  · have e0 : (rots l).map vS = List.map (fun i => vS (rot l i)) (List.range (↑l.length : Int).toNat) := by
      unfold rots
      rw [List.map_map, Int.toNat_natCast]
      rfl
    rw [← e0] at hd
    have kk := k H' e
    unfold leastT at kk
    cases hr : rots l with
    | nil =>
      exfalso
      apply h0
      have := congrArg List.length hr
      unfold rots at this
      simpa using this
    | cons x xs =>
      rw [hr] at kk hd
      exact s_minS (SqL.of hd) kk
theorem pure_least_period (h : sp_least_period K vs H Q E) : t_least_period K (E1 Q) (start ["text", "period"] vs) H := by
  obtain ⟨l, rfl, hl, k⟩ := h
  show t_least_period K (E1 Q) [some (vS l), none] H
  unfold t_least_period
  walk_at "go"
  refine for_rng (fun i σ H1 => H1 = H ∧ (∃ x, σ = [some (vS l), x]) ∧ ∀ p, 1 ≤ p → p < i + 1 → rot l p ≠ l) ⟨rfl, ⟨none, rfl⟩, fun p h1 h2 => by omega⟩ ?_ ?_
  · rintro i σ H1 hi ⟨rfl, ⟨y, rfl⟩, hno⟩
    walk_at "go"
    rw [cut_from (by omega), cut_to (by omega), show ((1 : Int) + (i : Int)).toNat = i + 1 by omega]
    refine s_addS (by rw [List.length_drop, List.length_take]; walk_at "sz") ?_
    walk_at "go"
    refine s_2 (fun hb => ?_) (fun hb => ?_)
    · have hb : rot l (i + 1) = l := of_decide_eq_true hb
      walk_at "go"
      have e : leastP l = i + 1 := leastP_at (by omega) (by omega) hb fun p h1 h2 => hno p h1 (by omega)
      rw [e] at k
      have e2 : ((1 : Int) + (i : Int)) = ((i + 1 : Nat) : Int) := by omega
      rw [e2]
      exact k
    · have hb : rot l (i + 1) ≠ l := of_decide_eq_false hb
      walk_at "go"
      refine ⟨rfl, ⟨_, rfl⟩, fun p h1 h2 => ?_⟩
      by_cases hp : p = i + 1
      · subst hp; exact hb
      · exact hno p h1 (by omega)
  · rintro σ H1 ⟨rfl, ⟨y, rfl⟩, hno⟩
    walk_at "go"
    have e : leastP l = l.length := leastP_none fun p h1 h2 => hno p h1 (by omega)
    rw [← e]
    exact k
variable (F : RingK K)
include F
theorem pure_Ring_text (h : sp_Ring_text K vs H Q E) : t_Ring_text K (E1 Q) (start ["self"] vs) H := by
  obtain ⟨a, l, rfl, h, k⟩ := h
  show t_Ring_text K (E1 Q) [some (.ref a)] H
  unfold t_Ring_text
  walk_at "go"
  exact k
theorem pure_Ring_period (h : sp_Ring_period K vs H Q E) : t_Ring_period K (E1 Q) (start ["self"] vs) H := by
  obtain ⟨a, l, rfl, h, hl, k⟩ := h
  show t_Ring_period K (E1 Q) [some (.ref a)] H
  unfold t_Ring_period
  walk_at "go"
  exact u_least_period hl k
theorem pure_Ring_str (h : sp_Ring_str K vs H Q E) : t_Ring_str K (E1 Q) (start ["self"] vs) H := by
  obtain ⟨a, l, rfl, h, k⟩ := h
  show t_Ring_str K (E1 Q) [some (.ref a)] H
  unfold t_Ring_str
  walk_at "go"
  exact ⟨_, rfl, k⟩
theorem pure_Ring_len (h : sp_Ring_len K vs H Q E) : t_Ring_len K (E1 Q) (start ["self"] vs) H := by
  obtain ⟨a, l, rfl, h, hl, k⟩ := h
  show t_Ring_len K (E1 Q) [some (.ref a)] H
  unfold t_Ring_len
  walk_at "go"
  exact k
theorem pure_Ring_eq (h : sp_Ring_eq K vs H Q E) : t_Ring_eq K (E1 Q) (start ["self", "other"] vs) H := by
  obtain ⟨a, v, rfl, l, h1, h⟩ := h
  show t_Ring_eq K (E1 Q) [some (.ref a), some v] H
  unfold t_Ring_eq
  walk_at "go"
  rcases h with ⟨b, m, rfl, h2, k⟩ | ⟨n, hk, k⟩
  · walk_at "go"
    exact k
  · refine ⟨_, _, _, _, _, rfl, .own _, hk.1, F.no n hk.2, ?_⟩
    walk_at "go"
    exact k
theorem pure_Ring_init (h : sp_Ring_init K vs H Q E) : t_Ring_init K (E1 Q) (start ["self", "text"] vs) H := by
  obtain ⟨x, dx, l, rfl, hw, hx, k⟩ := h
  show t_Ring_init K (E1 Q) [some (.ref x), some (vS l)] H
  have hl := isWord_len hw
  unfold t_Ring_init
  walk_at "go"
  refine u_least_turning (fun e => by rw [e] at hl; simp at hl) (by omega) fun H2 e2 => ?_
  walk_at "go"
  refine u_setRing F (by walk_at "hp") fun H3 e3 h3 => ?_
  exact k _ (by walk_at "exs") h3
theorem pure_Ring_invert (h : sp_Ring_invert K vs H Q E) : t_Ring_invert K (E1 Q) (start ["self"] vs) H := by
  obtain ⟨a, l, rfl, h, hw, k⟩ := h
  show t_Ring_invert K (E1 Q) [some (.ref a)] H
  have hl := isWord_len hw
  unfold t_Ring_invert
  walk_at "go"
  exact u_makeRing (isWord_mk (by simp; omega) (by simp; omega) fun c hc => isWord_in hw c (List.mem_reverse.mp hc)) k
omit F in
theorem rep_len (k : Nat) (l : List Nat) : (rep k l).length = l.length * k := by simp [rep, Nat.mul_comm]
theorem pure_Ring_mul (h : sp_Ring_mul K vs H Q E) : t_Ring_mul K (E1 Q) (start ["self", "times"] vs) H := by
  obtain ⟨a, l, n, rfl, h, hw, h1, h2, k⟩ := h
  show t_Ring_mul K (E1 Q) [some (.ref a), some (.int n)] H
  have hl := isWord_len hw
  unfold t_Ring_mul
  have h3 : n ≤ (l.length : Int) * n := by
    have := Int.mul_le_mul_of_nonneg_right (show (1 : Int) ≤ (l.length : Int) by omega) (show 0 ≤ n by omega)
    omega
  have h4 : l.length * n.toNat ≤ 600 := by
    have : ((l.length * n.toNat : Nat) : Int) ≤ 600 := by
      rw [Int.natCast_mul, Int.toNat_of_nonneg (by omega)]
      exact h2
    omega
  have h5 : 1 ≤ l.length * n.toNat := Nat.mul_pos (by omega) (by omega)
  walk_at "go"
  refine s_mulS (by omega) (by omega) (by omega) ?_
  walk_at "go"
  refine u_makeRing (isWord_mk (by rw [rep_len]; exact h5) (by rw [rep_len]; exact h4) fun c hc => ?_) k
  obtain ⟨x, hx, hc⟩ := List.mem_flatten.mp hc
  rw [List.eq_of_mem_replicate hx] at hc
  exact isWord_in hw c hc
theorem pure_Ring_add (h : sp_Ring_add K vs H Q E) : t_Ring_add K (E1 Q) (start ["self", "other"] vs) H := by
  obtain ⟨a, b, l, m, rfl, h, h2, hw, hw2, hl, k⟩ := h
  show t_Ring_add K (E1 Q) [some (.ref a), some (.ref b)] H
  have hl1 := isWord_len hw
  have hl2 := isWord_len hw2
  unfold t_Ring_add
  walk_at "go"
  refine u_makeRing (isWord_mk (by rw [List.length_append]; omega) (by rw [List.length_append]; omega) fun c hc => ?_) k
  rcases List.mem_append.mp hc with hc | hc
  · exact isWord_in hw c hc
  · exact isWord_in hw2 c hc
end
end WB
namespace WB
/-- the signs from the place i on, going round -/
def readW (l : List Nat) (i : Int) (n : Nat) : List Nat := (List.range n).map fun k => l.getD (((i % l.length).toNat + k) % l.length) 0
theorem readW_len (l : List Nat) (i : Int) (n : Nat) : (readW l i n).length = n := by simp [readW]
theorem rep_get {l : List Nat} (h : 1 ≤ l.length) : ∀ (t j : Nat), j < t * l.length → (rep t l)[j]? = l[j % l.length]?
  | 0, j, hj => by omega
  | t + 1, j, hj => by
    rw [rep_succ]
    by_cases e : j < l.length
    · rw [List.getElem?_append_left e, Nat.mod_eq_of_lt e]
    · rw [List.getElem?_append_right (by omega), rep_get h t (j - l.length) (by rw [Nat.succ_mul] at hj; omega), ← Nat.mod_eq_sub_mod (by omega)]
theorem cut_both {l : List Nat} {b e : Int} (h0 : 0 ≤ b) (h1 : b ≤ e) (h2 : e ≤ l.length) : cut l (some b) (some e) = (l.drop b.toNat).take (e - b).toNat := by
  unfold cut
  have e1 : HT.sIx l.length 0 (some b) = min b.toNat l.length := by
    show (if b < 0 then (b + (l.length : Int)).toNat else min b.toNat l.length) = _
    rw [if_neg (by omega)]
  have e2 : HT.sIx l.length l.length (some e) = min e.toNat l.length := by
    show (if e < 0 then (e + (l.length : Int)).toNat else min e.toNat l.length) = _
    rw [if_neg (by omega)]
  rw [e1, e2, Nat.min_eq_left (by omega), Nat.min_eq_left (by omega)]
  congr 1
  omega
theorem stretch_eq {l : List Nat} {i n : Int} {t : Nat} (h : 1 ≤ l.length) (hn : 0 ≤ n) (ht : i % l.length + n ≤ (t * l.length : Nat)) : cut (rep t l) (some (i % l.length)) (some (i % l.length + n)) = readW l i n.toNat := by
  have b0 : 0 ≤ i % (l.length : Int) := Int.emod_nonneg _ (by omega)
  rw [cut_both b0 (by omega) (by rw [rep_length]; exact ht)]
  have e : (i % (l.length : Int) + n - i % (l.length : Int)).toNat = n.toNat := by omega
  rw [e]
  apply List.ext_getElem?
  intro k
  unfold readW
  rw [List.getElem?_take, List.getElem?_drop, List.getElem?_map]
  by_cases hk : k < n.toNat
  · rw [if_pos hk, List.getElem?_range hk, rep_get h _ _ (by omega)]
    have hm : ((i % (l.length : Int)).toNat + k) % l.length < l.length := Nat.mod_lt _ (by omega)
    rw [List.getElem?_eq_getElem hm]
    simp [List.getD_eq_getElem?_getD, List.getElem?_eq_getElem hm]
  · rw [if_neg hk]
    have : (List.range n.toNat)[k]? = none := List.getElem?_eq_none (by simp; omega)
    rw [this]
    rfl
theorem readW_rot {l : List Nat} (h : 1 ≤ l.length) (i : Int) : readW l i l.length = rot l (i % l.length).toNat := by
  have b0 : 0 ≤ i % (l.length : Int) := Int.emod_nonneg _ (by omega)
  have b1 : i % (l.length : Int) < l.length := Int.emod_lt_of_pos _ (by omega)
  generalize hb : (i % (l.length : Int)).toNat = b at *
  have hbl : b < l.length := by omega
  apply List.ext_getElem?
  intro k
  unfold readW rot
  rw [hb, List.getElem?_map]
  by_cases hk : k < l.length
  · rw [List.getElem?_range hk, Option.map_some]
    by_cases hc : b + k < l.length
    · rw [List.getElem?_append_left (by simp; omega), List.getElem?_drop, Nat.mod_eq_of_lt hc, List.getElem?_eq_getElem hc]
      simp [List.getD_eq_getElem?_getD, List.getElem?_eq_getElem hc]
    · have e1 : (b + k) % l.length = b + k - l.length := by rw [Nat.mod_eq_sub_mod (by omega), Nat.mod_eq_of_lt (by omega)]
      have h3 : b + k - l.length < l.length := by omega
      rw [List.getElem?_append_right (by simp; omega), List.getElem?_take, List.length_drop, if_pos (by omega), e1]
      have e2 : k - (l.length - b) = b + k - l.length := by omega
      rw [e2, List.getElem?_eq_getElem h3]
      simp [List.getD_eq_getElem?_getD, List.getElem?_eq_getElem h3]
  · have e1 : (List.range l.length)[k]? = none := List.getElem?_eq_none (by simp; omega)
    rw [e1, List.getElem?_eq_none (by simp; omega)]
    rfl
theorem readW_mem {l : List Nat} (h : 1 ≤ l.length) {i : Int} {n c : Nat} (hc : c ∈ readW l i n) : c ∈ l := by
  unfold readW at hc
  obtain ⟨k, _, rfl⟩ := List.mem_map.mp hc
  have hm : ((i % (l.length : Int)).toNat + k) % l.length < l.length := Nat.mod_lt _ (by omega)
  rw [List.getD_eq_getElem?_getD, List.getElem?_eq_getElem hm]
  exact List.getElem_mem hm
theorem readW_one {l : List Nat} {k : Nat} (h : k < l.length) : readW l (k : Int) 1 = [l.getD k 0] := by
  have : ((k : Int) % (l.length : Int)).toNat = k := by rw [Int.emod_eq_of_lt (by omega) (by omega)]; rfl
  simp [readW, this, Nat.mod_eq_of_lt h]
theorem readW_signs {l : List Nat} : (List.range l.length).map (fun (k : Nat) => readW l (k : Int) 1) = l.map fun c => [c] := by
  apply List.ext_getElem?
  intro k
  rw [List.getElem?_map, List.getElem?_map]
  by_cases hk : k < l.length
  · rw [List.getElem?_range hk, List.getElem?_eq_getElem hk]
    simp only [Option.map_some]
    rw [readW_one hk, List.getD_eq_getElem?_getD, List.getElem?_eq_getElem hk]
    rfl
  · have e1 : (List.range l.length)[k]? = none := List.getElem?_eq_none (by simp; omega)
    rw [e1, List.getElem?_eq_none (by omega)]
    rfl
open PySem PySem.Spec PyProof.Rows L2
/-! ### promises -/
def sp_is_within (K : PySem.W.Frag) : Sp := fun vs H Q _ => ∃ (v : V) (lo hi : Int), vs = [v, .int lo, .int hi] ∧ ((∃ i, v = .int i ∧ Q (.bl (decide (lo ≤ i ∧ i ≤ hi))) H) ∨ (∃ n, Kd K H v n ∧ n ≠ "int" ∧ Q (.bl false) H))
def sp_is_row (K : PySem.W.Frag) : Sp := fun vs H Q _ => ∃ (v : V) (m : Int), vs = [v, .int m] ∧ ((∃ a xs, v = .ref a ∧ SqT K H a xs ∧ Q (.bl (decide ((xs.length : Int) = m))) H) ∨ (∃ n, Kd K H v n ∧ n ≠ "tuple" ∧ Q (.bl false) H))
def sp_Ring_stretch (K : PySem.W.Frag) : Sp := fun vs H Q _ => ∃ (a : Addr) (i n : Int), vs = [.ref a, .int i, .int n] ∧ ∃ l, RingAt K H a l ∧ 1 ≤ l.length ∧ l.length ≤ 600 ∧ 0 ≤ n ∧ n ≤ 10000 ∧ Q (vS (readW l i n.toNat)) H
def sp_Ring_turned (K : PySem.W.Frag) : Sp := fun vs H Q _ => ∃ (a : Addr) (i : Int), vs = [.ref a, .int i] ∧ ∃ l, RingAt K H a l ∧ 1 ≤ l.length ∧ l.length ≤ 600 ∧ Q (vS (readW l i l.length)) H
def sp_Ring_getitem (K : PySem.W.Frag) : Sp := fun vs H Q _ => ∃ (a : Addr) (v : V), vs = [.ref a, v] ∧ ∃ l, RingAt K H a l ∧ 1 ≤ l.length ∧ l.length ≤ 600 ∧
  ((∃ i, v = .int i ∧ Q (vS (readW l i 1)) H) ∨ (∃ p i n, v = .ref p ∧ SqT K H p [.int i, .int n] ∧ 1 ≤ n ∧ n ≤ 600 ∧ Q (vS (readW l i n.toNat)) H))
def sp_law_long (K : PySem.W.Frag) : Sp := fun vs H Q _ => ∃ (a : Addr) (m : Int), vs = [.ref a, .int m] ∧ 0 < m ∧ m ≤ 100 ∧ PoolAt H a ∧ ∀ (l : List Nat) (H' : Hp), isWord l LET = true → Ex [a] H H' → PoolAt H' a → Q (vS l) H'
section
variable {K : PySem.W.Frag} {H : Hp} {Q : VK} {E : XK}
theorem u_within {i lo hi : Int} (k : Q (.bl (decide (lo ≤ i ∧ i ≤ hi))) H) : sp_is_within K ([.int i, .int lo, .int hi] ++ []) H Q E := ⟨_, _, _, rfl, .inl ⟨_, rfl, k⟩⟩
theorem u_row {a : Addr} {xs : List V} {m : Int} (h : SqT K H a xs) (k : Q (.bl (decide ((xs.length : Int) = m))) H) : sp_is_row K ([.ref a, .int m] ++ []) H Q E := ⟨_, _, rfl, .inl ⟨_, _, rfl, h, k⟩⟩
theorem u_methRing {a : Addr} {l : List Nat} {m : Str} {sp : Sp} {dvs : List V} {tr : TA} {σ : St} (h : RingAt K H a l) (hm : (m == ("least" : Str)) = false) (k : tr σ H fun vs H2 => sp (.ref a :: (vs ++ dvs)) H2 Q E) : MethG (He.ga K "Ring") m sp dvs E tr σ (.ref a) H Q := by
  obtain ⟨dx, h⟩ := h
  refine ⟨a, dx, _, rfl, h, ?_, k⟩
  simp only [List.lookup, hm]
theorem u_stretch {a : Addr} {l : List Nat} {i n : Int} (h : RingAt K H a l) (h1 : 1 ≤ l.length) (h2 : l.length ≤ 600) (h3 : 0 ≤ n) (h4 : n ≤ 10000) (k : Q (vS (readW l i n.toNat)) H) : sp_Ring_stretch K (.ref a :: ([.int i, .int n] ++ [])) H Q E := ⟨_, _, _, rfl, l, h, h1, h2, h3, h4, k⟩
theorem u_turned {a : Addr} {l : List Nat} {i : Int} (h : RingAt K H a l) (h1 : 1 ≤ l.length) (h2 : l.length ≤ 600) (k : Q (vS (readW l i l.length)) H) : sp_Ring_turned K (.ref a :: ([.int i] ++ [])) H Q E := ⟨_, _, rfl, l, h, h1, h2, k⟩
theorem u_getI {a : Addr} {l : List Nat} {i : Int} (h : RingAt K H a l) (h1 : 1 ≤ l.length) (h2 : l.length ≤ 600) (k : Q (vS (readW l i 1)) H) : rIxO (He.ga K "Ring") (sp_Ring_getitem K) E (.ref a) (.int i) H Q := by
  obtain ⟨dx, h'⟩ := id h
  exact ⟨a, dx, _, rfl, h', _, _, rfl, l, h, h1, h2, .inl ⟨_, rfl, k⟩⟩
theorem u_getP {a p : Addr} {l : List Nat} {i n : Int} (h : RingAt K H a l) (hp : SqT K H p [.int i, .int n]) (h1 : 1 ≤ l.length) (h2 : l.length ≤ 600) (h3 : 1 ≤ n) (h4 : n ≤ 600) (k : Q (vS (readW l i n.toNat)) H) : rIxO (He.ga K "Ring") (sp_Ring_getitem K) E (.ref a) (.ref p) H Q := by
  obtain ⟨dx, h'⟩ := id h
  exact ⟨a, dx, _, rfl, h', _, _, rfl, l, h, h1, h2, .inr ⟨_, _, _, rfl, hp, h3, h4, k⟩⟩
theorem u_long {a : Addr} {m : Int} (h0 : 0 < m) (h1 : m ≤ 100) (hp : PoolAt H a) (k : ∀ (l : List Nat) (H' : Hp), isWord l LET = true → Ex [a] H H' → PoolAt H' a → Q (vS l) H') : sp_law_long K ([.ref a, .int m] ++ []) H Q E := ⟨_, _, rfl, h0, h1, hp, k⟩
theorem notFirst_KD {C : Addr} {n : String} (h : n ∈ KD) : PySem.W.notFirst K C (.type n) = true := by
  simp only [KD, List.mem_cons, List.not_mem_nil, or_false] at h
  rcases h with rfl | rfl | rfl | rfl | rfl | rfl | rfl
  · exact notFirst_ty (r := ["int", "object"]) (by decide +kernel)
  · exact notFirst_ty (r := ["bool", "int", "object"]) (by decide +kernel)
  · exact notFirst_ty (r := ["str", "object"]) (by decide +kernel)
  · exact notFirst_ty (r := ["NoneType", "object"]) (by decide +kernel)
  · exact notFirst_ty (r := ["list", "object"]) (by decide +kernel)
  · exact notFirst_ty (r := ["tuple", "object"]) (by decide +kernel)
  · exact notFirst_ty (r := ["dict", "object"]) (by decide +kernel)
theorem u_eqK {a : Addr} {l : List Nat} {v : V} {n : String} (h : RingAt K H a l) (hk : Kd K H v n) (k : Q (.bl false) H) : rEqA K (He.ga K "Ring") (sp_Ring_eq K) E (.ref a) v H Q := by
  obtain ⟨dx, h'⟩ := id h
  exact ⟨a, dx, _, _, rfl, h', hk.1, notFirst_KD hk.2, a, _, rfl, l, h, .inr ⟨n, hk, _, rfl, k⟩⟩
theorem u_neK {a : Addr} {l : List Nat} {v : V} {n : String} (h : RingAt K H a l) (hk : Kd K H v n) (k : Q (.bl true) H) : rNeA K (He.ga K "Ring") (sp_Ring_eq K) E (.ref a) v H Q := by
  obtain ⟨dx, h'⟩ := id h
  exact ⟨a, dx, _, _, rfl, h', hk.1, notFirst_KD hk.2, a, _, rfl, l, h, .inr ⟨n, hk, _, rfl, k⟩⟩
theorem u_neRing (F : RingK K) {a b : Addr} {l m : List Nat} (h : RingAt K H a l) (h2 : RingAt K H b m) (k : Q (.bl (!decide (l = m))) H) : rNeA K (He.ga K "Ring") (sp_Ring_eq K) E (.ref a) (.ref b) H Q := by
  obtain ⟨dx, h'⟩ := id h
  obtain ⟨dy, h2'⟩ := id h2
  exact ⟨a, dx, _, _, rfl, h', F.ty _ _ _ _ h2', notFirst_own, a, _, rfl, l, h, .inl ⟨b, m, rfl, h2, _, rfl, k⟩⟩
theorem s_listS {l : List Nat} (h : l.length ≤ sizeLine) (k : ∀ p H2, H p = none → Ex [] H H2 → H2 p = some (.lst (l.map fun c => vS [c])) → Q (.ref p) H2) : rListS [vS l] H Q := ⟨l, rfl, h, k⟩
theorem s_andU {b c : Bool} {ta : TE} {σ : St} (h : ∀ Q' : VK, b = true → Q' (.bl c) H → ta σ H Q') (k : Q (.bl (b && c)) H) : if b = true then ta σ H Q else Q (.bl false) H := by
  cases b with
  | true => exact s_T rfl (h Q rfl k)
  | false => exact s_F rfl k
/-- either way a value of which P is known -/
theorem s_ifU {b : Bool} {ta tb : TE} {σ : St} (P : V → Hp → Prop) (k1 : b = true → ∀ Q' : VK, (∀ x H', P x H' → Q' x H') → ta σ H Q') (k2 : b = false → ∀ Q' : VK, (∀ x H', P x H' → Q' x H') → tb σ H Q') (hQ : ∀ x H', P x H' → Q x H') : if b = true then ta σ H Q else tb σ H Q := by
  cases b with
  | true => exact s_T rfl (k1 rfl Q hQ)
  | false => exact s_F rfl (k2 rfl Q hQ)
end
end WB
namespace WB
open PySem PySem.Spec PyProof.Rows L2
local macro_rules | `(tactic| walk_at "lit") => `(tactic| first | exact lit_abc | exact lit_empty)
local macro_rules | `(tactic| walk_at "nm") => `(tactic| focus first | exact List.not_mem_nil | (simp only [List.mem_singleton]; first | assumption | (exact Ne.symm (by assumption)) | (intro hz; subst hz; simp_all; done)))
local macro_rules | `(tactic| walk_at "hp") => `(tactic| first | assumption | (apply Ex.get0 (by assumption); walk_at "hp") | (apply Ex.get (by assumption); (walk_at "nm"); (walk_at "hp")))
local macro_rules | `(tactic| walk_at "sq") => `(tactic| first | assumption | (apply SqL.of; walk_at "hp") | (apply Ex.sqL (by assumption); (walk_at "nm"); (walk_at "sq")))
local macro_rules | `(tactic| walk_at "sqt") => `(tactic| first | assumption | (apply SqT.of; walk_at "hp") | (apply Ex.sqT (by assumption); (walk_at "nm"); (walk_at "sqt")))
local macro_rules | `(tactic| walk_at "sz") => `(tactic| focus ((with_reducible refine Nat.le_trans (m := 100000) ?_ (by decide)); first | omega | (simp; done) | (simp; omega)))
local macro_rules | `(tactic| walk_at "mul") => `(tactic| first | exact Or.inr ⟨by omega, by omega⟩ | exact Or.inl ⟨by omega, by omega⟩)
local macro_rules | `(tactic| walk_at "pool") => `(tactic| first | assumption | (apply PoolAt.ex (by assumption); (walk_at "nm"); (walk_at "pool")))
local macro_rules | `(tactic| walk_at "ring") => `(tactic| first | assumption | (apply RingAt.ex (by assumption); (walk_at "nm"); (walk_at "ring")))
local macro_rules | `(tactic| walk_at "st") => `(tactic| first
  | with_reducible refine s_seq ?_
  | with_reducible refine s_asg ?_
  | with_reducible refine s_gName ?_
  | with_reducible refine s_ret ?_
  | with_reducible refine s_ifS ?_
  | with_reducible refine s_next ?_
  | with_reducible refine s_op ?_
  | ((with_reducible apply s_var); exact rfl)
  | ((with_reducible apply s_cS); (walk_at "lit"))
  | with_reducible refine s_c ?_
  | with_reducible refine s_cb ?_
  | with_reducible refine s_cons ?_
  | with_reducible refine s_nil ?_
  | with_reducible refine s_un ?_
  | with_reducible refine s_call ?_
  | with_reducible refine s_test ?_
  | with_reducible refine s_tB ?_
  | with_reducible refine s_blQ ?_
  | with_reducible refine s_not ?_
  | with_reducible refine s_and ?_
  | with_reducible refine s_or ?_
  | with_reducible refine s_andV ?_
  | with_reducible refine s_orV ?_
  | with_reducible refine s_notV ?_
  | with_reducible refine s_ifE ?_
  | with_reducible refine s_chain ?_
  | ((with_reducible refine s_T ?_ ?_); (with_reducible exact rfl))
  | with_reducible refine s_nT ?_
  | with_reducible refine s_nF ?_
  | ((with_reducible refine s_F ?_ ?_); (with_reducible exact rfl))
  | ((with_reducible refine s_T ?_ ?_); assumption)
  | ((with_reducible refine s_F ?_ ?_); assumption)
  | ((with_reducible refine s_nB ?_ ?_); assumption)
  | ((with_reducible refine s_nA ?_ ?_); assumption)
  | ((with_reducible refine s_Td ?_ ?_); omega)
  | ((with_reducible refine s_Fd ?_ ?_); omega)
  | ((with_reducible refine s_nTd ?_ ?_); omega)
  | ((with_reducible refine s_nFd ?_ ?_); omega)
  | with_reducible refine s_sfld ?_
  | with_reducible refine s_addI ?_
  | with_reducible refine s_subI ?_
  | ((with_reducible refine s_mulI ?_ ?_); (walk_at "mul"))
  | ((with_reducible refine s_divI ?_ ?_); exact ⟨by omega, by omega⟩)
  | ((with_reducible refine s_modI ?_ ?_); omega)
  | ((with_reducible refine s_powI ?_ ?_); exact ⟨by decide, by decide, by decide⟩)
  | with_reducible refine s_ltI ?_
  | with_reducible refine s_leI ?_
  | with_reducible refine s_gtI ?_
  | with_reducible refine s_geI ?_
  | with_reducible refine s_negI ?_
  | with_reducible refine s_absI ?_
  | with_reducible refine s_intI ?_
  | with_reducible refine s_min2 ?_
  | with_reducible refine s_max2 ?_
  | with_reducible refine s_eqI ?_
  | with_reducible refine s_neI ?_
  | with_reducible refine s_eqS ?_
  | with_reducible refine s_neS ?_
  | with_reducible refine s_inSg ?_
  | with_reducible refine s_notInSg ?_
  | ((with_reducible refine s_addS ?_ ?_); (walk_at "sz"))
  | ((with_reducible refine s_lenS ?_ ?_); (walk_at "sz"))
  | ((with_reducible apply s_lenL); (walk_at "sq"))
  | ((with_reducible apply s_lenT); (walk_at "sqt"))
  | ((with_reducible apply s_ixL); (walk_at "sq"); exact rfl)
  | ((with_reducible apply s_ixT); (walk_at "sqt"); exact rfl)
  | with_reducible refine s_gSub ?_
  | ((with_reducible apply s_setL); (walk_at "hp"); (exact rfl); (intro _ _ _))
  | ((with_reducible refine s_alloc ?_ ?_); (walk_at "sz"); (intro _ _ _ _ _))
  | ((with_reducible refine s_divmod ?_ ?_); (exact ⟨by omega, PyProof.noPylong_small (by omega)⟩); (intro _ _ _ _ _))
  | ((with_reducible apply s_gTup); (walk_at "sqt"); (exact rfl))
  | ((with_reducible apply s_gLst); (walk_at "sq"); (exact rfl))
  | with_reducible refine s_gCons ?_
  | with_reducible refine s_gNil ?_
  | with_reducible refine s_lc ?_
  | ((with_reducible apply s_cat); (walk_at "hp"); (walk_at "hp"); (walk_at "sz"); (intro _ _ _ _ _))
  | ((with_reducible apply s_slL); (walk_at "sq"); (intro _ _ _ _ _))
  | with_reducible refine s_for ?_
  | with_reducible refine s_rng1 ?_
  | ((with_reducible refine s_rng1i ?_ ?_); (constructor <;> omega))
  | with_reducible refine s_rng2 ?_
  | ((with_reducible refine s_rng2i ?_ ?_); (refine ⟨?_, ?_, ?_, ?_⟩ <;> omega))
  | with_reducible refine s_iStr ?_
  | with_reducible refine s_iStrS ?_
  | with_reducible refine s_iList ?_
  | ((with_reducible apply s_iListA); (walk_at "sq"))
  | with_reducible refine s_iTup ?_
  | ((with_reducible apply s_iTupA); (walk_at "sqt"))
  | with_reducible refine s_sl ?_
  | with_reducible refine s_noPart ?_
  | with_reducible refine s_part ?_
  | with_reducible refine s_int1 ?_
  | ((with_reducible refine s_slS ?_ ?_); (walk_at "sz"))
  | with_reducible refine s_tup ?_
  | with_reducible refine s_lst ?_
  | with_reducible refine s_par ?_
  | with_reducible refine s_pair ?_
  | with_reducible refine s_M1 ?_
  | with_reducible refine s_isStr ?_
  | with_reducible refine s_revS ?_
  | ((with_reducible refine s_revS1 ?_ ?_); (walk_at "sz"))
  | with_reducible refine s_fldE ?_
  | with_reducible refine s_propE ?_
  | ((with_reducible refine u_draw ?_ ?_ ?_ ?_); omega; omega; (walk_at "pool"); (intro _ _ _ _ _ _))
  | ((with_reducible refine u_pool ?_); (intro _ _ _ _ _))
  | with_reducible refine u_is_integer ?_
  | with_reducible refine s_isiII ?_
  | with_reducible refine s_isiIB ?_
  | with_reducible refine s_isiSS ?_
  | ((with_reducible apply u_fldRing); assumption; (walk_at "ring"))
  | ((with_reducible apply u_textP); (walk_at "ring"))
  | ((with_reducible apply u_strRing); (walk_at "ring"))
  | ((with_reducible apply u_eqRing); (walk_at "ring"); (walk_at "ring"))
  | ((with_reducible apply u_isiRing); assumption; (walk_at "ring"))
  | ((with_reducible refine u_is_word ?_ ?_); omega; (intro _ _))
  | ((with_reducible refine u_turnings ?_ ?_); omega; (intro _ _ _ _ _))
  | with_reducible refine s_makeE ?_
  | with_reducible refine s_methE ?_)
local macro_rules | `(tactic| walk_at "go") => `(tactic| repeat (walk_at "st"))
local macro_rules | `(tactic| walk_at "exs") => `(tactic| first | exact Ex.rfl | assumption | (apply Ex.snoc (by assumption); walk_at "exs") | (apply Ex.snocW (by assumption); walk_at "exs"))
/-- is_within: 0 value 1 least 2 most -/
def t_is_within (K : PySem.W.Frag) : TS :=
  (tRet (tAndV (tCall (sp_is_integer K) [] E0 (tCons (tVar 0) tNil)) (tChain rLeI rLeI (tVar 1) (tVar 0) (tVar 2))))
/-- is_row: 0 value 1 length -/
def t_is_row (K : PySem.W.Frag) : TS :=
  (tRet (tAndV (tCB (rIsi K) (tCons (tVar 0) (tCons (tC (.ty "tuple")) tNil))) (tOp rEq (tCB (rLenV K) (tCons (tVar 0) tNil)) (tVar 1))))
/-- Ring.stretch: 0 self 1 place 2 number 3 begin 4 times -/
def t_Ring_stretch (K : PySem.W.Frag) : TS :=
  (tSeq (tAsg (tOp rModI (tVar 1) (tCB (rLenV K) (tCons (tFld K (tVar 0) "least") tNil))) (gName 3))
  (tSeq (tAsg (tOp rAddI (tOp rDivI (tOp rAddI (tVar 3) (tVar 2)) (tCB (rLenV K) (tCons (tFld K (tVar 0) "least") tNil))) (tC (.int 1))) (gName 4))
  (tRet (tSl rSlS (tOp rMulS (tFld K (tVar 0) "least") (tVar 4)) (tPart (tVar 3)) (tPart (tOp rAddI (tVar 3) (tVar 2)))))))
/-- Ring.turned: 0 self 1 i -/
def t_Ring_turned (K : PySem.W.Frag) : TS :=
  (tSeq (tIfS (tNot (tB (tCall (sp_is_integer K) [] E0 (tCons (tVar 1) tNil)))) tNever tNext)
  (tRet (tMeth (He.ga K "Ring") "stretch" (sp_Ring_stretch K) [] E0 (tVar 0) (tCons (tVar 1) (tCons (tCB (rLenV K) (tCons (tFld K (tVar 0) "least") tNil)) tNil)))))
/-- Ring.__getitem__: 0 self 1 at -/
def t_Ring_getitem (K : PySem.W.Frag) : TS :=
  (tSeq (tIfS (tB (tCall (sp_is_integer K) [] E0 (tCons (tVar 1) tNil))) (tRet (tMeth (He.ga K "Ring") "stretch" (sp_Ring_stretch K) [] E0 (tVar 0) (tCons (tVar 1) (tCons (tC (.int 1)) tNil)))) tNext)
  (tSeq (tIfS (tOr (tNot (tB (tCall (sp_is_row K) [] E0 (tCons (tVar 1) (tCons (tC (.int 2)) tNil))))) (tOr (tNot (tB (tCall (sp_is_integer K) [] E0 (tCons (tOp (rIxT K) (tVar 1) (tC (.int 0))) tNil)))) (tNot (tB (tCall (sp_is_within K) [] E0 (tCons (tOp (rIxT K) (tVar 1) (tC (.int 1))) (tCons (tC (.int 1)) (tCons (tC (.int 600)) tNil)))))))) tNever tNext)
  (tRet (tMeth (He.ga K "Ring") "stretch" (sp_Ring_stretch K) [] E0 (tVar 0) (tCons (tOp (rIxT K) (tVar 1) (tC (.int 0))) (tCons (tOp (rIxT K) (tVar 1) (tC (.int 1))) tNil))))))
/-- _law_long: 0 _law_pool_here 1 _law_most 2 _law_abc 3 _law_way 4 _law_piece -/
def t_law_long (K : PySem.W.Frag) : TS :=
  (tSeq (tAsg (tIf (tTest (tOp rEq (tCall (sp_law_draw K) [] E0 (tCons (tVar 0) (tCons (tC (.int 4)) tNil))) (tC (.int 0)))) (tC (.str "abcdefghijklmnopqrstuvwxyz")) (tCall (sp_law_signs K) [] E0 (tCons (tVar 0) (tCons (tC (.int 4)) tNil)))) (gName 2))
  (tSeq (tAsg (tCall (sp_law_draw K) [] E0 (tCons (tVar 0) (tCons (tC (.int 8)) tNil))) (gName 3))
  (tSeq (tIfS (tTest (tOp rLtI (tVar 3) (tC (.int 4)))) (tRet (tCall (sp_law_word K) [] E0 (tCons (tVar 0) (tCons (tVar 2) (tCons (tC (.int 7)) tNil))))) tNext)
  (tSeq (tIfS (tTest (tOp rLtI (tVar 3) (tC (.int 6)))) (tRet (tCall (sp_law_word K) [] E0 (tCons (tVar 0) (tCons (tVar 2) (tCons (tVar 1) tNil))))) tNext)
  (tSeq (tAsg (tCall (sp_law_word K) [] E0 (tCons (tVar 0) (tCons (tVar 2) (tCons (tC (.int 5)) tNil)))) (gName 4))
  (tRet (tIf (tTest (tOp rEq (tVar 3) (tC (.int 6)))) (tOp rMulS (tVar 4) (tOp rAddI (tC (.int 1)) (tCall (sp_law_draw K) [] E0 (tCons (tVar 0) (tCons (tC (.int 6)) tNil))))) (tOp rMulS (tVar 4) (tOp rDivI (tC (.int 600)) (tCB (rLenV K) (tCons (tVar 4) tNil)))))))))))
section
variable {K : PySem.W.Frag} {vs : List V} {H : Hp} {Q : VK} {E : XK}
theorem pure_is_within (h : sp_is_within K vs H Q E) : t_is_within K (E1 Q) (start ["value", "least", "most"] vs) H := by
  obtain ⟨v, lo, hi, rfl, h⟩ := h
  show t_is_within K (E1 Q) [some v, some (.int lo), some (.int hi)] H
  unfold t_is_within
  walk_at "go"
  rcases h with ⟨i, rfl, k⟩ | ⟨n, hk, hn, k⟩
  · walk_at "go"
    refine s_2 (fun hb => ?_) (fun hb => ?_)
    · have hb := of_decide_eq_true hb
      walk_at "go"
      have e : decide (i ≤ hi) = decide (lo ≤ i ∧ i ≤ hi) := by simp [hb]
      rw [e]
      exact k
    · have hb := of_decide_eq_false hb
      have e : false = decide (lo ≤ i ∧ i ≤ hi) := by simp [hb]
      rw [e]
      exact k
  · refine u_not_integer hk hn ?_
    walk_at "go"
    exact k
theorem pure_is_row (h : sp_is_row K vs H Q E) : t_is_row K (E1 Q) (start ["value", "length"] vs) H := by
  obtain ⟨v, m, rfl, h⟩ := h
  show t_is_row K (E1 Q) [some v, some (.int m)] H
  unfold t_is_row
  walk_at "go"
  rcases h with ⟨a, xs, rfl, hs, k⟩ | ⟨n, hk, hn, k⟩
  · refine s_isiK (Kd.tup hs) (b := true) (by decide +kernel) ?_
    walk_at "go"
    exact k
  · have hm := hk.2
    simp only [KD, List.mem_cons, List.not_mem_nil, or_false] at hm
    rcases hm with rfl | rfl | rfl | rfl | rfl | rfl | rfl
    all_goals first
      | exact absurd rfl hn
      | (refine s_isiK hk (b := false) (by decide +kernel) ?_
         walk_at "go"
         exact k)
theorem pure_law_long (h : sp_law_long K vs H Q E) : t_law_long K (E1 Q) (start ["_law_pool_here", "_law_most", "_law_abc", "_law_way", "_law_piece"] vs) H := by
  obtain ⟨a, m, rfl, h0, h1, hp, k⟩ := h
  show t_law_long K (E1 Q) [some (.ref a), some (.int m), none, none, none] H
  unfold t_law_long
  walk_at "go"
  rename_i r H1 r0 r1 e1 p1
  refine s_ifU (fun x H2 => ∃ abc : List Nat, x = vS abc ∧ abc ≠ [] ∧ abc.length ≤ 100 ∧ (∀ c ∈ abc, c ∈ LET) ∧ Ex [a] H H2 ∧ PoolAt H2 a) (fun _ Q' kk => ?_) (fun _ Q' kk => ?_) ?_
  · walk_at "go"
    exact kk _ _ ⟨LET, rfl, by simp, by decide, fun _ h => h, e1, p1⟩
  · walk_at "go"
    refine u_signs (by omega) (by omega) p1 fun abc H2 ha1 ha2 ha3 _ e2 p2 => ?_
    exact kk _ _ ⟨abc, rfl, ha1, by omega, ha3, e1.trans e2, p2⟩
  rintro _ H2 ⟨abc, rfl, ha1, ha2, ha3, e2, p2⟩
  walk_at "go"
  rename_i w H3 w0 w1 e3 p3
  refine s_2 (fun hb => ?_) (fun hb => ?_)
  · walk_at "go"
    refine u_word ha1 (by omega) (by omega) (by omega) p3 fun l H4 l1 l2 l3 e4 p4 => ?_
    exact k _ _ (isWord_mk (List.length_pos_iff.mpr l1) (by omega) fun c hc => ha3 c (l3 c hc)) ((e2.trans e3).trans e4) p4
  walk_at "go"
  refine s_2 (fun hb => ?_) (fun hb => ?_)
  · walk_at "go"
    refine u_word ha1 (by omega) (by omega) (by omega) p3 fun l H4 l1 l2 l3 e4 p4 => ?_
    exact k _ _ (isWord_mk (List.length_pos_iff.mpr l1) (by omega) fun c hc => ha3 c (l3 c hc)) ((e2.trans e3).trans e4) p4
  walk_at "go"
  refine u_word ha1 (by omega) (by omega) (by omega) p3 fun l H4 l1 l2 l3 e4 p4 => ?_
  have hll : 1 ≤ l.length := List.length_pos_iff.mpr l1
  have hw : isWord l LET = true := isWord_mk hll (by omega) fun c hc => ha3 c (l3 c hc)
  walk_at "go"
  refine s_ifU (fun x H5 => ∃ w : List Nat, x = vS w ∧ isWord w LET = true ∧ Ex [a] H H5 ∧ PoolAt H5 a) (fun _ Q' kk => ?_) (fun _ Q' kk => ?_) ?_
  · walk_at "go"
    rename_i r5 H5 r50 r51 e5 p5
    have hb : l.length * (1 + r5).toNat ≤ 30 := by
      have : (1 + r5).toNat ≤ 6 := by omega
      have h2 : l.length ≤ 5 := by omega
      exact Nat.mul_le_mul h2 this
    refine s_mulS (by omega) (by omega) (by omega) ?_
    exact kk _ _ ⟨_, rfl, isWord_rep hw (by omega) (by rw [Nat.mul_comm]; omega), ((e2.trans e3).trans e4).trans e5, p5⟩
  · walk_at "go"
    have q0 : (1 : Int) ≤ 600 / (l.length : Int) := by
      refine (Int.le_ediv_iff_mul_le (by omega)).mpr ?_
      omega
    have q1 : (600 / (l.length : Int)) * (l.length : Int) ≤ 600 := Int.ediv_mul_le _ (by omega)
    have q2 : (600 / (l.length : Int)) ≤ 600 := Int.ediv_le_self _ (by omega)
    obtain ⟨q, hq⟩ := Int.eq_ofNat_of_zero_le (show (0 : Int) ≤ 600 / (l.length : Int) by omega)
    rw [hq] at q0 q1 q2 ⊢
    have q3 : q * l.length ≤ 600 := by exact_mod_cast q1
    refine s_mulS (by omega) (by omega) (by rw [Nat.mul_comm]; simpa using Nat.le_trans q3 (by omega)) ?_
    exact kk _ _ ⟨_, rfl, isWord_rep hw (by simp; omega) (by simpa using q3), (e2.trans e3).trans e4, p4⟩
  · rintro _ H5 ⟨w, rfl, hw, e5, p5⟩
    exact k _ _ hw e5 p5
variable (F : RingK K)
include F
theorem pure_Ring_stretch (h : sp_Ring_stretch K vs H Q E) : t_Ring_stretch K (E1 Q) (start ["self", "place", "number", "begin", "times"] vs) H := by
  obtain ⟨a, i, n, rfl, l, hr, l1, l2, n0, n1, k⟩ := h
  show t_Ring_stretch K (E1 Q) [some (.ref a), some (.int i), some (.int n), none, none] H
  have b0 : 0 ≤ i % (l.length : Int) := Int.emod_nonneg _ (by omega)
  have b1 : i % (l.length : Int) < l.length := Int.emod_lt_of_pos _ (by omega)
  unfold t_Ring_stretch
  walk_at "go"
  have q0 : 0 ≤ (i % (l.length : Int) + n) / (l.length : Int) := Int.ediv_nonneg (by omega) (by omega)
  have q1 : (i % (l.length : Int) + n) / (l.length : Int) * (l.length : Int) ≤ i % (l.length : Int) + n := Int.ediv_mul_le _ (by omega)
  have q2 : i % (l.length : Int) + n < ((i % (l.length : Int) + n) / (l.length : Int) + 1) * (l.length : Int) := Int.lt_ediv_add_one_mul_self _ (by omega)
  obtain ⟨q, hq⟩ := Int.eq_ofNat_of_zero_le q0
  rw [hq] at q1 q2 ⊢
  have q3 : q * l.length ≤ 11000 := by
    have : ((q * l.length : Nat) : Int) ≤ 11000 := by push_cast; omega
    exact_mod_cast this
  have q4 : q ≤ q * l.length := Nat.le_mul_of_pos_right _ (by omega)
  have e1 : ((q : Int) + 1).toNat = q + 1 := by omega
  have q5 : l.length * (q + 1) ≤ 12000 := by rw [Nat.mul_comm, Nat.succ_mul]; omega
  refine s_mulS (by omega) (by omega) (by rw [e1]; omega) ?_
  rw [e1]
  walk_at "go"
  refine s_slS (by rw [rep_length, Nat.mul_comm]; exact Nat.le_trans q5 (by decide)) ?_
  rw [stretch_eq l1 n0 (by push_cast; push_cast at q2; omega)]
  exact k
theorem pure_Ring_turned (h : sp_Ring_turned K vs H Q E) : t_Ring_turned K (E1 Q) (start ["self", "i"] vs) H := by
  obtain ⟨a, i, rfl, l, hr, l1, l2, k⟩ := h
  show t_Ring_turned K (E1 Q) [some (.ref a), some (.int i)] H
  unfold t_Ring_turned
  walk_at "go"
  refine u_methRing hr (by decide +kernel) ?_
  walk_at "go"
  refine u_stretch hr l1 l2 (by omega) (by omega) ?_
  exact k
theorem pure_Ring_getitem (h : sp_Ring_getitem K vs H Q E) : t_Ring_getitem K (E1 Q) (start ["self", "at"] vs) H := by
  obtain ⟨a, v, rfl, l, hr, l1, l2, h⟩ := h
  show t_Ring_getitem K (E1 Q) [some (.ref a), some v] H
  unfold t_Ring_getitem
  walk_at "go"
  rcases h with ⟨i, rfl, k⟩ | ⟨p, i, n, rfl, hp, n1, n2, k⟩
  · walk_at "go"
    refine u_methRing hr (by decide +kernel) ?_
    walk_at "go"
    exact u_stretch hr l1 l2 (by omega) (by omega) k
  · refine u_not_integer (Kd.tup hp) (by decide) ?_
    walk_at "go"
    refine u_row hp ?_
    walk_at "go"
    refine s_nFd rfl ?_
    walk_at "go"
    refine u_within ?_
    rw [decide_eq_true (show (1 : Int) ≤ n ∧ n ≤ 600 from ⟨n1, n2⟩)]
    walk_at "go"
    refine u_methRing hr (by decide +kernel) ?_
    walk_at "go"
    exact u_stretch hr l1 l2 (by omega) (by omega) k
end
end WB
namespace WB
open PySem PySem.Spec PyProof.Rows L2
/-! ### plain lemmas of texts -/
theorem Ex.dropM {H H1 H2 : Hp} {p : Addr} {m : List Addr} (hp : H p = none) (a : Ex m H H1) (b : Ex [p] H1 H2) : Ex m H H2 := fun x o hx h => b x o (by simpa using ne_of_none h hp) (a x o hx h)
theorem mem_cut {l : List Nat} {lo hi : Option Int} {c : Nat} (h : c ∈ cut l lo hi) : c ∈ l := List.mem_of_mem_drop (List.mem_of_mem_take h)
theorem cut_le {l : List Nat} {lo hi : Option Int} : (cut l lo hi).length ≤ l.length := by
  unfold cut
  rw [List.length_take, List.length_drop]
  omega
theorem erase_map (f : Nat → V) : ∀ (l : List Nat) (i : Nat), (l.map f).eraseIdx i = (l.eraseIdx i).map f
  | [], i => by simp
  | x :: l, 0 => rfl
  | x :: l, i + 1 => by
    show f x :: (l.map f).eraseIdx i = f x :: (l.eraseIdx i).map f
    rw [erase_map f l i]
theorem cut_len2 {l : List Nat} {b e : Int} (h0 : 0 ≤ b) (h1 : b ≤ e) : (cut l (some b) (some e)).length ≤ (e - b).toNat ∧ (cut l (some b) (some e)).length ≤ l.length - b.toNat := by
  unfold cut
  have e1 : HT.sIx l.length 0 (some b) = min b.toNat l.length := by
    show (if b < 0 then (b + (l.length : Int)).toNat else min b.toNat l.length) = _
    rw [if_neg (by omega)]
  have e2 : HT.sIx l.length l.length (some e) = min e.toNat l.length := by
    show (if e < 0 then (e + (l.length : Int)).toNat else min e.toNat l.length) = _
    rw [if_neg (by omega)]
  rw [e1, e2, List.length_take, List.length_drop]
  omega
theorem readW_zero {l : List Nat} (h : 1 ≤ l.length) : readW l 0 l.length = l := by
  rw [readW_rot h]
  have : ((0 : Int) % (l.length : Int)).toNat = 0 := by simp
  rw [this, rot_zero]
theorem plain_let {l : List Nat} (h : ∀ c ∈ l, c ∈ LET) : plain l := fun c hc => by
  have := h c hc
  simp only [LET, List.mem_cons, List.not_mem_nil, or_false] at this
  omega
theorem plain_app {l m : List Nat} (h : plain l) (h2 : plain m) : plain (l ++ m) := fun c hc => by
  rcases List.mem_append.mp hc with z | z
  · exact h c z
  · exact h2 c z
theorem plain_cut {l : List Nat} {lo hi : Option Int} (h : plain l) : plain (cut l lo hi) := fun c hc => h c (mem_cut hc)
theorem plain_sub {l m : List Nat} (h : plain l) (hm : ∀ c ∈ m, c ∈ l) : plain m := fun c hc => h c (hm c hc)
theorem readW_get {l : List Nat} {i : Int} {n k : Nat} (hk : k < n) : (readW l i n)[k]? = some (l.getD (((i % l.length).toNat + k) % l.length) 0) := by
  unfold readW
  rw [List.getElem?_map, List.getElem?_range hk]
  rfl
/-- a part of what is read -/
theorem readW_part {l : List Nat} {i N n : Nat} (hl : 1 ≤ l.length) (h : i + n ≤ N) : ((readW l 0 N).drop i).take n = readW l (i : Int) n := by
  apply List.ext_getElem?
  intro k
  rw [List.getElem?_take, List.getElem?_drop]
  by_cases hk : k < n
  · rw [if_pos hk, readW_get (by omega), readW_get hk]
    have e0 : ((0 : Int) % (l.length : Int)).toNat = 0 := by simp
    have e1 : ((i : Int) % (l.length : Int)).toNat = i % l.length := by omega
    rw [e0, e1, Nat.zero_add, Nat.mod_add_mod]
  · rw [if_neg hk, List.getElem?_eq_none (by rw [readW_len]; omega)]
theorem readW_nat {l : List Nat} {i n : Nat} : readW l (i : Int) n = readW l ((i % l.length : Nat) : Int) n := by
  unfold readW
  have e1 : ((i : Int) % (l.length : Int)).toNat = i % l.length := by omega
  have e2 : (((i % l.length : Nat) : Int) % (l.length : Int)).toNat = i % l.length := by
    have : ((i % l.length : Nat) : Int) % (l.length : Int) = ((i % l.length % l.length : Nat) : Int) := by omega
    rw [this, Nat.mod_mod]
    rfl
  rw [e1, e2]
theorem rot_get {l : List Nat} {j k : Nat} (hj : j < l.length) (hk : k < l.length) : (rot l j)[k]? = l[(j + k) % l.length]? := by
  unfold rot
  by_cases h : j + k < l.length
  · rw [List.getElem?_append_left (by simp; omega), List.getElem?_drop, Nat.mod_eq_of_lt h]
  · rw [List.getElem?_append_right (by simp; omega), List.length_drop, List.getElem?_take, if_pos (by omega)]
    congr 1
    rw [Nat.mod_eq_sub_mod (by omega), Nat.mod_eq_of_lt (by omega)]
    omega
theorem readW_of_rot {l : List Nat} {i j n : Nat} (hj : j < l.length) : readW (rot l j) (i : Int) n = readW l ((i + j : Nat) : Int) n := by
  apply List.ext_getElem?
  intro k
  by_cases hk : k < n
  · rw [readW_get hk, readW_get hk]
    have e1 : ((i : Int) % (l.length : Int)).toNat = i % l.length := by omega
    have e2 : (((i + j : Nat) : Int) % (l.length : Int)).toNat = (i + j) % l.length := by omega
    rw [rot_len, e1, e2, List.getD_eq_getElem?_getD, List.getD_eq_getElem?_getD, rot_get hj (Nat.mod_lt _ (by omega))]
    congr 3
    have h1 : (j + (i % l.length + k) % l.length) % l.length = (j + (i + k)) % l.length := by rw [Nat.mod_add_mod, Nat.add_mod_mod]
    have h2 : ((i + j) % l.length + k) % l.length = (j + (i + k)) % l.length := by
      rw [Nat.mod_add_mod]
      congr 1
      omega
    rw [h1, h2]
  · rw [List.getElem?_eq_none (by rw [readW_len]; omega), List.getElem?_eq_none (by rw [readW_len]; omega)]
end WB
namespace WB
open PySem PySem.Spec PyProof.Rows L2
/-! ### values of any kind -/
def oddS : List (List Nat) := [[], [97], [97, 98], [65], [97, 32, 98], [97, 97], [97, 10], [97, 98, 99, 100, 101]]
def kA : Key := .inr "a"
inductive OddAt (m : List Addr) (H : Hp) : V → Prop
  | non : OddAt m H .non
  | bl (b : Bool) : OddAt m H (.bl b)
  | int (i : Int) (h : i.natAbs ≤ 10 ^ 38) : OddAt m H (.int i)
  | str (l : List Nat) (h : l ∈ oddS) : OddAt m H (vS l)
  | l0 {a : Addr} (n : a ∉ m) (h : H a = some (.lst [])) : OddAt m H (.ref a)
  | l1 {a : Addr} (n : a ∉ m) (h : H a = some (.lst [vS [97]])) : OddAt m H (.ref a)
  | d0 {a : Addr} (n : a ∉ m) (h : H a = some (.dK [])) : OddAt m H (.ref a)
  | d1 {a : Addr} (n : a ∉ m) (h : H a = some (.dK [(kA, .int 1)])) : OddAt m H (.ref a)
  | t0 {a : Addr} (n : a ∉ m) (h : H a = some (.tup [])) : OddAt m H (.ref a)
  | t1 {a : Addr} (n : a ∉ m) (h : H a = some (.tup [vS [97]])) : OddAt m H (.ref a)
  | t2 {a : Addr} (n : a ∉ m) (h : H a = some (.tup [.int 0, .int 1])) : OddAt m H (.ref a)
  | t3 {a b c d e : Addr} (n : a ∉ m) (nb : b ∉ m) (nc : c ∉ m) (nd : d ∉ m) (ne : e ∉ m) (h : H a = some (.tup [.ref b, .ref c])) (hb : H b = some (.lst [])) (hc : H c = some (.dK [(kA, .ref d)])) (hd : H d = some (.tup [.int 1, .ref e])) (he : H e = some (.lst [])) : OddAt m H (.ref a)
theorem OddAt.ex {m : List Addr} {H H' : Hp} {v : V} (e : Ex m H H') (h : OddAt m H v) : OddAt m H' v := by
  cases h with
  | non => exact .non
  | bl b => exact .bl b
  | int i h => exact .int i h
  | str l h => exact .str l h
  | l0 n h => exact .l0 n (e _ _ n h)
  | l1 n h => exact .l1 n (e _ _ n h)
  | d0 n h => exact .d0 n (e _ _ n h)
  | d1 n h => exact .d1 n (e _ _ n h)
  | t0 n h => exact .t0 n (e _ _ n h)
  | t1 n h => exact .t1 n (e _ _ n h)
  | t2 n h => exact .t2 n (e _ _ n h)
  | t3 n nb nc nd ne h hb hc hd he => exact .t3 n nb nc nd ne (e _ _ n h) (e _ _ nb hb) (e _ _ nc hc) (e _ _ nd hd) (e _ _ ne he)
theorem oddS_len {l : List Nat} (h : l ∈ oddS) : l.length ≤ 5 := by
  simp only [oddS, List.mem_cons, List.not_mem_nil, or_false] at h
  rcases h with rfl | rfl | rfl | rfl | rfl | rfl | rfl | rfl <;> decide
theorem oddS_plain {l : List Nat} (h : l ∈ oddS) : plain l := by
  simp only [oddS, List.mem_cons, List.not_mem_nil, or_false] at h
  rcases h with rfl | rfl | rfl | rfl | rfl | rfl | rfl | rfl <;> (unfold plain; decide)
theorem Kd.dict {K : PySem.W.Frag} {H : Hp} {a : Addr} {kvs : List (Key × V)} (h : H a = some (.dK kvs)) : Kd K H (.ref a) "dict" := ⟨.base (.dK h), by decide +kernel⟩
/-- texts, or of another kind -/
theorem OddAt.kd {K : PySem.W.Frag} {m : List Addr} {H : Hp} {v : V} (h : OddAt m H v) : (∃ l ∈ oddS, v = vS l) ∨ ∃ n, Kd K H v n ∧ n ≠ "str" := by
  cases h with
  | non => exact .inr ⟨_, .non, by decide⟩
  | bl b => exact .inr ⟨_, .bl, by decide⟩
  | int i h => exact .inr ⟨_, .int, by decide⟩
  | str l h => exact .inl ⟨l, h, rfl⟩
  | l0 n h => exact .inr ⟨_, .lst h, by decide⟩
  | l1 n h => exact .inr ⟨_, .lst h, by decide⟩
  | d0 n h => exact .inr ⟨_, .dict h, by decide⟩
  | d1 n h => exact .inr ⟨_, .dict h, by decide⟩
  | t0 n h => exact .inr ⟨_, .tup (SqT.of h), by decide⟩
  | t1 n h => exact .inr ⟨_, .tup (SqT.of h), by decide⟩
  | t2 n h => exact .inr ⟨_, .tup (SqT.of h), by decide⟩
  | t3 n nb nc nd ne h hb hc hd he => exact .inr ⟨_, .tup (SqT.of h), by decide⟩
def sp_law_odd (K : PySem.W.Frag) : Sp := fun vs H Q _ => ∃ a : Addr, vs = [.ref a] ∧ PoolAt H a ∧ ∀ (v : V) (H' : Hp), Ex [a] H H' → PoolAt H' a → OddAt [a] H' v → Q v H'
def sp_law_is_word (K : PySem.W.Frag) : Sp := fun vs H Q _ => ∃ (v : V) (s : List Nat), vs = [v, vS s] ∧ ((∃ l : List Nat, v = vS l ∧ l.length ≤ 10000 ∧ plain l ∧ ∀ H', Ex [] H H' → Q (.bl (isWord l s)) H') ∨ (∃ n, Kd K H v n ∧ n ≠ "str" ∧ Q (.bl false) H))
section
variable {K : PySem.W.Frag} {H : Hp} {Q : VK} {E : XK}
theorem u_odd {a : Addr} (hp : PoolAt H a) (k : ∀ (v : V) (H' : Hp), Ex [a] H H' → PoolAt H' a → OddAt [a] H' v → Q v H') : sp_law_odd K ([.ref a] ++ []) H Q E := ⟨_, rfl, hp, k⟩
theorem u_lwordS {l s : List Nat} (hl : l.length ≤ 10000) (hp : plain l) (k : ∀ H', Ex [] H H' → Q (.bl (isWord l s)) H') : sp_law_is_word K ([vS l, vS s] ++ []) H Q E := ⟨_, _, rfl, .inl ⟨l, rfl, hl, hp, k⟩⟩
theorem u_lwordN {v : V} {s : List Nat} {n : String} (h : Kd K H v n) (hn : n ≠ "str") (k : Q (.bl false) H) : sp_law_is_word K ([v, vS s] ++ []) H Q E := ⟨_, _, rfl, .inr ⟨n, h, hn, k⟩⟩
/-! dict displays -/
theorem s_dnew (k : ∀ p H2, H p = none → Ex [] H H2 → H2 p = some (.dK []) → Q (.ref p) H2) {σ : St} : tDNewK σ H Q := fun p hp => k p _ hp (Ex.new hp) upd_same
theorem s_disp1 {σ : St} {ta tb : TE} {z : Key} {v : V} (h : ∀ p H1, H p = none → Ex [] H H1 → H1 p = some (.dK []) → ∀ R : List (V × V) → Hp → Prop, (∀ H2, Ex [] H1 H2 → R [(kV z, v)] H2) → tPairs [(ta, tb)] σ H1 R) (k : ∀ p H2, H p = none → Ex [] H H2 → H2 p = some (.dK [(z, v)]) → Q (.ref p) H2) : tDisp [(ta, tb)] σ H Q := by
  intro p hp
  refine h p _ hp (Ex.new hp) upd_same _ fun H2 e => ⟨e p _ (by simp) upd_same, [(z, v)], rfl, by simp, k p _ hp ?_ ?_⟩
  · intro b o _ hb
    rw [upd_ne (ne_of_none hb hp)]
    exact e b o (by simp) (by rw [upd_ne (ne_of_none hb hp)]; exact hb)
  · exact upd_same
theorem s_pairs1 {σ : St} {ta tb : TE} {R : List (V × V) → Hp → Prop} (k : ta σ H fun x H1 => tb σ H1 fun y H2 => R [(x, y)] H2) : tPairs [(ta, tb)] σ H R := k
/-- over range: those that pass, each by its value -/
theorem lc_fmR {n j : Nat} {lo : Int} {tt : TT} {te : TE} {σ : St} (hn : n ≤ 100000) (p : Nat → Bool) (val : Nat → V)
    (h : ∀ (i : Nat) (H1 : Hp) (C1 : VK) (C0 : Hp → Prop), i < n → Ex [] H H1 → (∀ H2, Ex [] H1 H2 → p i = true → C1 (val i) H2) → (∀ H2, Ex [] H1 H2 → p i = false → C0 H2) →
      tt ((wipe σ [j]).set j (some (.int (lo + i)))) H1 fun b H2 => if b = true then te ((wipe σ [j]).set j (some (.int (lo + i)))) H2 C1 else C0 H2)
    (k : ∀ D H', H D = none → Ex [] H H' → H' D = some (.lst (((List.range n).filter p).map val)) → Q (.ref D) H') : LcW (Itr lo n) (gName j) tt te [j] σ H Q := by
  refine lc_run walk_range hn [] (fun _ => True) (fun i acc _ => acc = ((List.range i).filter p).map val) (by simp) trivial (by simp) (fun _ _ _ _ _ => trivial) (fun _ _ _ _ _ _ h => h) (fun _ _ => trivial) ?_ ?_
  · rintro i acc x H1 H2 C1 C0 hi e _ rfl ⟨rfl, rfl⟩ k1 k0
    refine ⟨wipe1 _ _ _, ?_⟩
    refine h i H2 C1 C0 hi e (fun H5 e5 hp => k1 _ H5 e5 trivial ?_) (fun H5 e5 hp => k0 H5 e5 trivial ?_)
    · rw [List.range_succ, List.filter_append, List.map_append]
      simp [hp]
    · rw [List.range_succ, List.filter_append, List.map_append]
      simp [hp]
  · rintro D H' ys hD e _ hd _ rfl
    exact k D H' hD e hd
/-! lists of data against [] -/
theorem dp_all {f : α → V} {g : α → PyData} (h : ∀ x, Dp K H (f x) (g x)) : ∀ l : List α, DpAll K H (l.map f) (l.map g)
  | [] => .nil
  | x :: l => .cons (h x) (dp_all h l)
theorem canLay_all {g : α → PyData} (h : ∀ x, PyData.canLay0 (g x) = true) : ∀ l : List α, PyData.canLayAll0 (l.map g) = true
  | [] => by simp [PyData.canLayAll0]
  | x :: l => by
    rw [List.map_cons, PyData.canLayAll0]
    exact Bool.and_eq_true_iff.mpr ⟨h x, canLay_all h l⟩
theorem depth_all {g : α → PyData} (h : ∀ x, PyData.depth (g x) = 0) : ∀ l : List α, PyData.depthAll (l.map g) = 0
  | [] => by simp [PyData.depthAll]
  | x :: l => by
    rw [List.map_cons, PyData.depthAll, depth_all h l, h x]
    rfl
theorem shaped_ints (l : List Int) : SeqAt.shaped (.list (l.map PyData.int)) = true := by
  unfold SeqAt.shaped
  refine Bool.and_eq_true_iff.mpr ⟨?_, decide_eq_true ?_⟩
  · rw [PyData.canLay0]; exact canLay_all (fun x => by simp [PyData.canLay0]) l
  · rw [PyData.depth, depth_all (fun x => by simp [PyData.depth]) l]; omega
theorem eqv_nil {ds : List PyData} : PyData.eqv (.list ds) (.list []) = ds.isEmpty := by
  cases ds with
  | nil => simp [PyData.eqv, PyData.eqvAll]
  | cons d ds => simp [PyData.eqv, PyData.eqvAll]
theorem s_neLInil {a b : Addr} {l : List Int} (h1 : SqL K H a (l.map V.int)) (h2 : SqL K H b []) (k : Q (.bl (!l.isEmpty)) H) : rNeD K (.ref a) (.ref b) H Q := by
  refine ⟨_, _, .lst h1 (dp_all (fun i => .int i) l), .lst h2 .nil, shaped_ints l, by decide +kernel, ?_⟩
  rw [eqv_nil]
  cases l <;> exact k
theorem s_eqLSnil {a b : Addr} {ls : List (List Nat)} (h1 : SqL K H a (ls.map vS)) (h2 : SqL K H b []) (p1 : ∀ l ∈ ls, plain l) (k : Q (.bl ls.isEmpty) H) : rEqD K (.ref a) (.ref b) H Q := by
  refine ⟨_, _, .lst h1 (dp_strs ls), .lst h2 .nil, shaped_strs p1, by decide +kernel, ?_⟩
  rw [eqv_nil]
  cases ls <;> exact k
end
end WB
/-! len(set(..)) of texts, any of them more than once -/
namespace WB
open PySem PySem.Spec PyProof.Rows L2
/-- how many different ones -/
def ndc {α : Type} [DecidableEq α] : List α → Nat
  | [] => 0
  | x :: r => if x ∈ r then ndc r else ndc r + 1
theorem ndc_le {α : Type} [DecidableEq α] : ∀ l : List α, ndc l ≤ l.length
  | [] => Nat.le_refl _
  | x :: r => by
    have := ndc_le r
    rw [ndc, List.length_cons]
    split <;> omega
theorem ndc_full {α : Type} [DecidableEq α] : ∀ l : List α, ndc l = l.length ↔ l.Nodup
  | [] => by simp [ndc]
  | x :: r => by
    have h1 := ndc_le r
    rw [ndc, List.length_cons, List.nodup_cons, ← ndc_full r]
    split
    · rename_i h
      constructor
      · intro z; omega
      · intro z; exact absurd h z.1
    · rename_i h
      constructor
      · intro z; exact ⟨h, by omega⟩
      · intro z; omega
theorem take_rev {α : Type} {xs : List α} {i : Nat} (h : i < xs.length) : (xs.take (i + 1)).reverse = xs[i] :: (xs.take i).reverse := by
  rw [List.take_add_one, List.getElem?_eq_getElem h]
  simp
section
variable {prog : Program} {w : World} {A : Around} {R : Result → Shared → Prop} {J : Addr} {fp wr : List Addr} {n : Nat} {P : Nat → Value → Prop} {St : Nat → Heap → Prop}
theorem setLoop (W : Walks prog w A.in1 J fp wr n P St) (c : Addr) (hc : c ∉ fp) (xs : List Str) (hx : xs.length = n) (hb : n < 4000) (hv : ∀ i v, P i v → ∃ t, v = .str (xs.getD i Str.empty) t) :
    ∀ (m i : Nat) (s : Shared), n - i = m → i ≤ n → St i s.heap → s.heap.SetOf (PySem.strKind prog w) c (fun z => decide (z ∈ xs.take i)) (ndc (xs.take i).reverse) →
      (∀ h' tk, (∀ b o, b ∉ c :: wr → s.heap.get? b = some o → h'.get? b = some o) → h'.SetOf (PySem.strKind prog w) c (fun z => decide (z ∈ xs)) (ndc xs.reverse) → R (.ok (.ret .none)) { s with heap := h', toks := tk }) →
      codeAny (model prog w) A (.builtin "set.update.loop" ⟨[.ref c, .ref J], []⟩) R s := by
  have cw : c ∉ wr := fun z => hc (W.sub _ z)
  intro m
  induction m with
  | zero =>
    intro i s e1 e2 st hs k
    obtain rfl : i = n := by omega
    refine codeAny_builtin PyProof.Rows.F.entry_set_update_loop ?_
    rw [Around.under_plainId PyProof.Rows.F.plain_set_update_loop _]
    show wpAny _ _ (pyNext (.ref J) >>= _) _ _ _
    refine wpAny_bind (W.done s _ _ st fun h1 t1 k1 => ?_)
    refine (show wpAny _ _ (ret Value.none) _ _ _ from wpAny_pure (k h1 t1 (fun b o z => k1 b o fun y => z (List.mem_cons_of_mem _ y)) ?_))
    rw [List.take_of_length_le (by omega)] at hs
    obtain ⟨o, es, ep, t, ho, r⟩ := hs
    exact ⟨o, es, ep, t, k1 c o cw ho, r⟩
  | succ m ih =>
    intro i s e1 e2 st hs k
    have lt : i < n := by omega
    have lt2 : i < xs.length := by omega
    refine codeAny_builtin PyProof.Rows.F.entry_set_update_loop ?_
    rw [Around.under_plainId PyProof.Rows.F.plain_set_update_loop _]
    show wpAny _ _ (pyNext (.ref J) >>= _) _ _ _
    refine wpAny_bind (W.item i s _ _ lt st fun v h1 t1 hP st1 k1 => ?_)
    obtain ⟨t, rfl⟩ := hv i v hP
    have eg : xs.getD i Str.empty = xs[i] := by rw [List.getD_eq_getElem?_getD, List.getElem?_eq_getElem lt2]; rfl
    rw [eg]
    have hs1 : h1.SetOf (PySem.strKind prog w) c (fun z => decide (z ∈ xs.take i)) (ndc (xs.take i).reverse) := by
      obtain ⟨o, es, ep, t', ho, r⟩ := hs
      exact ⟨o, es, ep, t', k1 c o cw ho, r⟩
    have hl := ndc_le (xs.take i).reverse
    rw [List.length_reverse, List.length_take] at hl
    show wpAny _ _ (holding [Value.str xs[i] t] (setAdd c (.str xs[i] t)) >>= _) _ _ _
    unfold setAdd
    refine wpAny_bind (wpAny_holding (wpAny_holding (wpAny_bind ((PySem.strKind prog w).pyHash (k := xs[i]) (strKind_is _ _ _ _) ?_))))
    refine wpAny_setAddHashed_of (knd := PySem.strKind prog w) (s := ⟨h1, s.gens, s.drawn, t1 + 1, s.os⟩) (strKind_is _ _ _ _) rfl hs1 (by unfold scanBound; omega) fun h2 sb hs2 => ?_
    have hs3 : h2.SetOf (PySem.strKind prog w) c (fun z => decide (z ∈ xs.take (i + 1))) (ndc (xs.take (i + 1)).reverse) := by
      refine SetOf_congr hs2 (fun z => ?_) ?_
      · rw [List.take_add_one, List.getElem?_eq_getElem lt2, Bool.eq_iff_iff, Bool.or_eq_true, decide_eq_true_iff, decide_eq_true_iff, decide_eq_true_iff, List.mem_append]
        simp
      · rw [take_rev lt2, ndc]
        simp
    refine wpAny_pure ⟨plainId_quiet PyProof.Rows.F.plain_set_update_loop _, ih (i + 1) ⟨h2, s.gens, s.drawn, t1 + 1, s.os⟩ (by omega) lt (W.frame _ h1 _ st1 fun b hbf o e => ?_) hs3 fun h3 t3 k3 hs4 => ?_⟩
    · rw [sb.2 b (fun z : b = c => hc (by rw [← z]; exact hbf))]; exact e
    · refine k h3 t3 (fun b o z e => k3 b o z ?_) hs4
      rw [sb.2 b (fun y : b = c => z (by rw [y]; exact List.mem_cons_self))]
      exact k1 b o (fun y => z (List.mem_cons_of_mem _ y)) e
end
section
variable {prog : Program} {w : World} {A : Around} {E : Value → Shared → Prop} {s : Shared}
abbrev newSetO (led : Bool) : Obj := { cls := .type "set", dict := none, data := .set #[] 0 (.fresh 0 0 led) }
/-- what set(..) asks of what it takes: src gives the texts xs, one by one -/
structure Src (prog : Program) (w : World) (h : Heap) (src : Value) (xs : List Str) : Prop where
  any : ∀ {A : Around} {E : Value → Shared → Prop} {s : Shared} {Q : Bool → Shared → Prop}, (∀ b o, h.get? b = some o → s.heap.get? b = some o) → Q false s → wpAny (model prog w) A (Builtin.Frozenset.isAnySet src) Q E s
  ty : ∀ {A : Around} {E : Value → Shared → Prop} {s : Shared} {Q : Value → Shared → Prop}, (∀ b o, h.get? b = some o → s.heap.get? b = some o) → (∀ t, (t == Value.type "dict") = false → Q t s) → wpAny (model prog w) A (typeOf src) Q E s
  it : ∀ {A : Around} {E : Value → Shared → Prop} {s : Shared} {Q : Value → Shared → Prop}, (∀ b o, h.get? b = some o → s.heap.get? b = some o) →
    (∀ (o : Obj) (fp : List Addr) (P : Nat → Value → Prop) (St : Nat → Heap → Prop), (∀ b ∈ fp, b = s.heap.objs.size ∨ b < h.objs.size) → (∀ i v, P i v → ∃ t, v = .str (xs.getD i Str.empty) t) →
      (∀ A' : Around, A'.handled = none → Walks prog w A' s.heap.objs.size fp [s.heap.objs.size] xs.length P St) → St 0 (s.heap.push o) → Q (.ref s.heap.objs.size) { s with heap := s.heap.push o }) → wpAny (model prog w) A (pyIter src) Q E s
theorem updFrom {src : Value} {xs : List Str} {s0 : Heap} {c : Addr} {id : String} {led : Bool} {Q : Unit → Shared → Prop} (hh : A.handled = none) (hs : Src prog w s0 src xs) (hb : xs.length < 4000) (up : ∀ b o, s0.get? b = some o → s.heap.get? b = some o) (hc : s0.objs.size ≤ c) (ho : s.heap.get? c = some (newSetO led))
    (h : ∀ (h' : Heap) (tk : Nat), h'.SetOf (PySem.strKind prog w) c (fun z => decide (z ∈ xs)) (ndc xs.reverse) → (∀ b o, b ≠ c → s.heap.get? b = some o → h'.get? b = some o) → Q () { s with heap := h', toks := tk }) :
    wpAny (model prog w) A (Builtin.Frozenset.updateFrom id c src) Q E s := by
  unfold Builtin.Frozenset.updateFrom
  refine wpAny_bind (hs.any up ?_)
  show wpAny _ _ (do let __do_lift ← typeOf src; _) _ _ _
  refine wpAny_bind (hs.ty up fun t ht => ?_)
  rw [ht]
  show wpAny _ _ (pyIter src >>= _) _ _ _
  refine wpAny_bind (hs.it up fun o fp P St hfp hv hW st => ?_)
  refine wpAny_bind (wpAny_runValue ?_)
  have lt : c < s.heap.objs.size := Heap.lt_size ho
  refine setLoop (hW _ (by simp [hh])) c ?_ xs rfl hb hv (xs.length - 0) 0 { s with heap := s.heap.push o } rfl (Nat.zero_le _) st ?_ fun h' tk k hS => ?_
  · intro z
    rcases hfp c z with e | e
    · exact Nat.ne_of_lt lt e
    · exact Nat.not_lt.mpr hc e
  · exact PyProof.Rows.SetOf_congr ((PyProof.Rows.setObjOf_fresh (knd := PySem.strKind prog w) led).setOf (Heap.get?_push_of_some o ho) (by unfold scanBound; omega)) (fun z => by simp) (by simp [ndc])
  · refine wpAny_pure (h h' tk hS fun b u nb e => k b u ?_ (Heap.get?_push_of_some o e))
    have := Heap.lt_size e
    simp only [List.mem_cons, List.not_mem_nil, or_false, not_or]
    exact ⟨nb, Nat.ne_of_lt this⟩
theorem call_setS {src : Value} {xs : List Str} {Q : Value → Shared → Prop} (hh : A.handled = none) (hs : Src prog w s.heap src xs) (hb : xs.length < 4000)
    (h : ∀ (h' : Heap) (tk : Nat), h'.SetOf (PySem.strKind prog w) s.heap.objs.size (fun z => decide (z ∈ xs)) (ndc xs.reverse) → (∀ b o, s.heap.get? b = some o → h'.get? b = some o) → Q (.ref s.heap.objs.size) { s with heap := h', toks := tk }) :
    wpAny (model prog w) A (call (.type "set") [src]) Q E s := by
  obtain ⟨c, tl, hmro⟩ := PySem.F.called_set.mro
  have q1 := PySem.F.called_set.made
  have q2 := PySem.F.called_set.sub
  have q3 := PySem.F.called_set.notType
  have q4 := PySem.F.called_set.canCreate
  have q5 := PySem.F.typeCall_set_1 src
  refine wpAny_call (codeAny_of_tree (show wpAny _ _ (callAny (.type "set") _) _ _ _ from wpAny_pure ⟨Code.quiet_builtin _ (by decide +kernel), codeAny_builtin PySem.F.entry_type_call ?_⟩))
  rw [Around.under_plain (weight_type_call_type "set" [src] []) rfl]
  repeat (any_goals (first | assumption | wp_step))
  refine codeAny_mono (code_set_new_1 src (E := E) (Q₁ := fun o s₁ => ∃ led : Bool, o = .ref s.heap.objs.size ∧ s₁ = { s with heap := s.heap.push (newSetO led) }) fun led => ⟨led, rfl, rfl⟩) fun r s₁ hr => ?_
  cases r with
  | error e => exact hr
  | ok fl =>
    cases fl with
    | ret o1 =>
      obtain ⟨led, rfl, rfl⟩ := hr
      have hS : (s.heap.push (newSetO led)).get? s.heap.objs.size = some (newSetO led) := Heap.get?_push_size _ rfl
      have hT : Shared.TypeIs { s with heap := s.heap.push (newSetO led) } (.ref s.heap.objs.size) "set" := ⟨_, hS, rfl⟩
      have q6 := PySem.F.called_set.init.lookup
      have q7 := PySem.F.called_set.init.bind (.ref s.heap.objs.size)
      repeat (any_goals (first | assumption | wp_step))
      refine codeAny_mono (codeAny_call_builtin (R := wants (fun r s₂ => r = .none ∧ ∃ h' tk, s₂ = { s with heap := h', toks := tk } ∧ h'.SetOf (PySem.strKind prog w) s.heap.objs.size (fun z => decide (z ∈ xs)) (ndc xs.reverse) ∧
          (∀ b o, s.heap.get? b = some o → h'.get? b = some o)) E) PySem.F.called_set.init.plain PySem.F.entry_set_init (check_set_init_1 hT ?_)) fun r₂ s₂ hr₂ => ?_
      · have up : ∀ b o, s.heap.get? b = some o → (s.heap.push (newSetO led)).get? b = some o := fun b o e => Heap.get?_push_of_some _ e
        unfold Builtin.«set.__init__» noKeywords
        generalize hPI : Builtin.Frozenset.updateFrom = UF
        wp_walk
        subst hPI
        refine updFrom (s := { s with heap := s.heap.push (newSetO led) }) (by simp [hh]) hs hb up (Nat.le_refl _) hS fun h' tk x1 x2 => ?_
        refine (show wpAny _ _ (ret Value.none) _ _ _ from wpAny_pure ⟨rfl, h', tk, rfl, x1, fun b o e => x2 b o (Nat.ne_of_lt (Heap.lt_size e)) (up b o e)⟩)
      · cases r₂ with
        | error e => exact hr₂
        | ok fl₂ =>
          cases fl₂ with
          | ret r =>
            obtain ⟨rfl, h', tk, rfl, x1, x2⟩ := hr₂
            repeat (any_goals (first | assumption | wp_step))
            exact h _ _ x1 x2
          | _ => exact hr₂.elim
    | _ => exact hr.elim
theorem src_str {h : Heap} (x : Str) (u : Tok) : Src prog w h (.str x u) (x.cps.toList.map fun c => ⟨#[c]⟩) where
  any := fun _ q => L2.Fz.anySet q
  ty := fun _ q => wpAny_typeOf (typeIs_str _ _ _) (q _ (by decide))
  it := fun {A E s Q} _ q => wpAny_pyIter_str fun o St hW st => by
    refine q o [s.heap.objs.size] (SignAt x) St (fun b hb => .inl (List.mem_singleton.mp hb)) (fun i v hv => ?_) (fun A' hA => ?_) st
    · obtain ⟨c, u, hc, e⟩ := hv
      refine ⟨u, ?_⟩
      rw [e, List.getD_eq_getElem?_getD, List.getElem?_map, Array.getElem?_toList, hc]
      rfl
    · have e : (x.cps.toList.map fun c => (⟨#[c]⟩ : Str)).length = x.cps.size := by simp
      rw [e]
      exact hW A' hA
theorem src_list {h : Heap} {l : Addr} {items : Array Value} {xs : List Str} (hl : h.IsList l items) (hx : StrsAre items.toList xs) : Src prog w h (.ref l) xs where
  any := fun {A E s Q} up q => by
    have T : s.TypeIs (.ref l) "list" := by
      obtain ⟨o, ho, hc, _⟩ := hl
      exact ⟨o, up _ _ ho, hc⟩
    unfold Builtin.Frozenset.isAnySet
    exact wpAny_bind (wpAny_isInstance T PySem.F.sub_list_set (show wpAny _ _ (isInstance (.ref l) (.type "frozenset")) _ _ _ from wpAny_isInstance T PySem.F.sub_list_frozenset q))
  ty := fun {A E s Q} up q => by
    have T : s.TypeIs (.ref l) "list" := by
      obtain ⟨o, ho, hc, _⟩ := hl
      exact ⟨o, up _ _ ho, hc⟩
    exact wpAny_typeOf T (q _ (by decide))
  it := fun {A E s Q} up q => by
    have hl2 : s.heap.IsList l items := hl.at fun o e => up _ _ e
    have hlt : l < h.objs.size := by
      obtain ⟨o, ho, _⟩ := hl
      exact Heap.lt_size ho
    have hlt2 : l < s.heap.objs.size := by
      obtain ⟨o, ho, _⟩ := hl2
      exact Heap.lt_size ho
    refine wpAny_pyIter_list hl2 (q _ [s.heap.objs.size, l] (fun i v => items[i]? = some v) (fun i h => h.IsListIter s.heap.objs.size l i ∧ h.IsList l items) (fun b hb => ?_) (fun i v hv => ?_) (fun A' hA => ?_) ?_)
    · simp only [List.mem_cons, List.not_mem_nil, or_false] at hb
      rcases hb with rfl | rfl
      · exact .inl rfl
      · exact .inr hlt
    · exact SS.strs_at hx i v (by rw [Array.getElem?_toList]; exact hv)
    · have e : xs.length = items.size := by rw [← StrsAre.len_eq hx, Array.length_toList]
      rw [e]
      exact Walks.list hA _ l (Nat.ne_of_lt hlt2) items
    · exact ⟨⟨_, Heap.get?_push_size _ rfl, rfl, rfl⟩, hl2.push _⟩
end
/-! ### the rule -/
def rSetN (K : PySem.W.Frag) (x : V) (H : Hp) (Q : VK) : Prop := (∃ l : List Nat, x = vS l ∧ l.length < 4000 ∧ Q (.int (ndc l.reverse : Nat)) H) ∨ (∃ (a : Addr) (ls : List (List Nat)), x = .ref a ∧ SqL K H a (ls.map vS) ∧ ls.length < 4000 ∧ Q (.int (ndc ls.reverse : Nat)) H)
def tLenSetS (K : PySem.W.Frag) (ta : TE) : TE := fun σ H Q => ta σ H fun x H1 => rSetN K x H1 Q
theorem ndc_map {α β : Type} [DecidableEq α] [DecidableEq β] (f : α → β) (hf : ∀ x y, f x = f y → x = y) : ∀ l : List α, ndc (l.map f) = ndc l
  | [] => rfl
  | x :: r => by
    rw [List.map_cons, ndc, ndc, ndc_map f hf r]
    have : f x ∈ r.map f ↔ x ∈ r := ⟨fun h => by
      obtain ⟨y, hy, e⟩ := List.mem_map.mp h
      rw [← hf _ _ e]; exact hy, fun h => List.mem_map_of_mem h⟩
    by_cases h : x ∈ r
    · rw [if_pos h, if_pos (this.mpr h)]
    · rw [if_neg h, if_neg fun z => h (this.mp z)]
theorem pe_lenSetS {X : Cx} {a : Expr} {ta : TE} {p p2 q pos : Pos} (hc : X.calm = true) (hg : Gl X "len") (hm : X.mg "len" = none) (hg2 : Gl X "set") (hm2 : X.mg "set" = none) (ha : PE X a ta)
    (na : starEach [a] X.env = (false, eval a X.env) :: starEach [] X.env := by rfl) : PE X (.Call (.Name "len" p) [.Call (.Name "set" p2) [a] [] q] [] pos) (tLenSetS X.K ta) := by
  refine ⟨fun pins s σ H Q I h => Call_ (ld_blt I hg hm boot_len ?_)⟩
  refine PyProof.Rows.callWith_builtin1 (PyProof.Rows.args_cons (Call_ (ld_blt I hg2 hm2 boot_set ?_)) rfl) rfl rfl
  refine PyProof.Rows.callWith_type1 (PyProof.Rows.args_cons (thn (ha.run pins s σ H _ I h) fun v s1 ⟨x, H1, I1, r1, q1⟩ => PyProof.Rows.args_nil ?_) na) na rfl
  have fin : ∀ (n : Nat) (xs : List Str), n < 4000 → ndc xs.reverse = n → Q (.int n) H1 → ∀ (h' : Heap) (tk : Nat), h'.SetOf (PySem.strKind X.prog X.w) s1.heap.objs.size (fun z => decide (z ∈ xs)) (ndc xs.reverse) → (∀ b o, s1.heap.get? b = some o → h'.get? b = some o) →
      wpAny (model X.prog X.w) X.A (spliced (backTo pos (starEach [] X.env))) (fun vs s₂ => wpAny (model X.prog X.w) X.A (call (.builtin "len") (Value.ref s1.heap.objs.size :: vs)) (EP X pins σ Q) X.xe s₂) X.xe { s1 with heap := h', toks := tk } := fun n xs hn en qn h' tk hS hk => by
    refine PyProof.Rows.args_nil ?_
    rw [en] at hS
    obtain ⟨o, es, ep, t, ho, hex, hd, _, _, _, hf, hz⟩ := hS
    have I2 : Inv X pins σ H1 { s1 with heap := h', toks := tk } := I1.kept hk
    exact call_len_set ho hex hd hf (by rw [hz]; omega) ⟨.int n, H1, I2.tok _, ⟨_, by rw [hz]⟩, qn⟩
  rcases q1 with ⟨l, rfl, hl, qq⟩ | ⟨b, ls, rfl, hq, hl, qq⟩
  · obtain ⟨u, rfl⟩ := r1
    have e1 : (S l).cps.toList = l := S_cps l
    have e2 : ndc ((S l).cps.toList.map fun c => (⟨#[c]⟩ : Str)).reverse = ndc l.reverse := by
      rw [e1, ← List.map_reverse]
      exact ndc_map _ (fun x y e => by simpa using e) _
    have hle := ndc_le l.reverse
    rw [List.length_reverse] at hle
    refine call_setS (I1.ok.hd hc) (src_str (S l) u) (by rw [e1, List.length_map]; exact hl) (fin (ndc l.reverse) _ (by omega) e2 qq)
  · obtain rfl : v = Value.ref b := r1
    obtain ⟨its, rv, pl, hz⟩ := I1.list hq
    have hst : StrsAre its (ls.map S) := strsAre_of (by rw [List.map_map]; exact rv)
    have e2 : ndc (ls.map S).reverse = ndc ls.reverse := by
      rw [← List.map_reverse]
      exact ndc_map _ (fun x y e => S_inj e) _
    have hle := ndc_le ls.reverse
    rw [List.length_reverse] at hle
    exact call_setS (I1.ok.hd hc) (src_list pl.isList (by simpa using hst)) (by rw [List.length_map]; exact hl) (fin (ndc ls.reverse) _ (by omega) e2 qq)
end WB
/-! the truth of own things: by __len__, by __bool__, by neither -/
namespace WB
open PySem PySem.Spec PyProof.Rows L2
section
variable {prog : Program} {w : World} {A : Around} {E : Value → Shared → Prop} {s : Shared} {K : PySem.W.Frag} {x C L f : Addr} {h₀ : Heap} {m : Str → Option Value} {ox : Obj} {od : Option Obj}
theorem bool_made {v : Value} {Q : Value → Shared → Prop} (h : wpAny (model prog w) A.in1.in1 (truthy v) (fun c s' => Q (.bool c) s') E s) : wpAny (model prog w) A (call (.type "bool") [v]) Q E s := by
  refine callType_newIn F.called_bool F.newNe_bool (F.typeCall_bool_1 v) (F.newCall_bool_1 v) (fun o => F.args_object_init_2 o v) F.entry_bool_new
    (S := fun A' R s' => wpAny (model prog w) A'.in1 (truthy v) (fun c s2 => R (.ok (.ret (.bool c))) s2) (fun e s2 => R (.error e) s2) s')
    (.of_wp fun A' R s' hs => ?_) (wpAny_mono h (fun c s' z => ⟨rfl, z⟩) fun _ _ z => z)
  have f1 := F.conv_sub_bool
  have hs2 : wpAny (model prog w) A'.in1 (truthy v) (fun c s2 => R (.ok (.ret (.bool c))) s2) (fun e s2 => R (.error e) s2) s' := hs
  generalize hT : truthy = T at hs2
  unfold Builtin.«bool.__new__»
  rw [hT]
  repeat (any_goals (first | assumption | with_reducible refine wpAny_bind (wpAny_mono hs2 (fun c s2 z => ?_) fun _ _ z => z) | wp_step))
  all_goals first | exact ⟨_, rfl, z⟩ | exact wpAny_pure ⟨_, rfl, z⟩ | skip
/-- truth by __len__ -/
theorem truthy_len {Q : Bool → Shared → Prop} (F : Fr h₀ L s.heap m) (X₀ : K.In h₀) (I : PySem.W.InstAt s.heap x ox C od) (hn : PySem.W.findIn K (.ref C) "__bool__" = some none) (hs : PySem.W.findIn K (.ref C) "__len__" = some (some (.ref f))) (hf : PySem.W.isFn K (.ref f) = true)
    (h : wpAny (model prog w) A.in1 (call (.ref f) [.ref x]) (PySem.W.LenBack fun v s' => ∃ n u, v = .int n u ∧ Q (n != 0) s') E s) : wpAny (model prog w) A (truthy (.ref x)) Q E s := by
  have X := X₀.keeps F.keep
  unfold truthy
  refine wpAny_bind (m := callSpecial? (.ref x) (Str.ofString "__bool__")) (wpAny_bind (wpAny_bind (I.type.here ((PySem.W.looks_findIn X hn).here (wpAny_pure ?_)))))
  refine wpAny_bind (wpAny_bind (I.type.here ((PySem.W.looks_findIn X hs).here ?_)))
  show wpAny _ _ (runValue (.builtin "len" ⟨[.ref x], []⟩) >>= _) _ _ _
  refine wpAny_bind (wpAny_runValue (codeAny_builtin entry_len ?_))
  rw [Around.under_plainId plain_len _]
  unfold Builtin.«len»
  refine wpAny_bind (m := oneArg "len" _) (wpAny_pure ?_)
  refine wpAny_bind (m := callSpecial? (.ref x) (Str.ofString "__len__")) (PySem.W.special_fn X I hs (beq_iff_eq.mp hf) (wpAny_mono h (fun r s' hr => ?_) fun _ _ y => y))
  cases r <;> first | exact hr.elim | skip
  rename_i n u
  obtain ⟨⟨n0, n1⟩, n', u', en, hq⟩ := hr
  cases en
  refine wpAny_bind (wpAny_holding (wpAny_pure (wpAny_bind (wpAny_letGo ?_))))
  show wpAny _ _ (if n < 0 then _ else _) _ _ _
  rw [if_neg (by omega)]
  show wpAny _ _ (if n ≥ 2 ^ 63 then _ else _) _ _ _
  rw [if_neg (by omega)]
  exact wpAny_bind (wpAny_mkInt (wpAny_pure (show wpAny _ _ (pure (n != 0)) _ _ _ from wpAny_pure hq)))
end
section
variable {X : Cx} {CX : CXT} {k : Nat} {f C : Addr} {fd : FuncData} {ps : List Str} {sp : Sp} {E : XK}
/-- bool(o), by the own __len__ -/
def rBoolL (C : Addr) (sp : Sp) (E : XK) : List V → Hp → VK → Prop := fun xs H Q => ∃ a dx fs, xs = [.ref a] ∧ H a = some (.ins C dx fs) ∧ sp [.ref a] H (fun z H' => ∃ n : Nat, z = .int n ∧ n < 2 ^ 63 ∧ Q (.bl (decide (n ≠ 0))) H') E
theorem call_boolL' (hn : PySem.W.findIn X.K (.ref C) "__bool__" = some none) (S : Spec1 X.K C "__len__" f) (F : FnOk X.prog X.w X.K X.mg X.base CX k f fd ps sp) (hr : Room (k + 3) X.A) (hb : Binds X.K fd ps []) (hx : Passes CX X E) : CallR X (.type "bool") (rBoolL C sp E) := by
  intro pins s σ H xs us Q I r h
  obtain ⟨a, dx, fs, rfl, ha, h⟩ := h
  obtain ⟨u, rfl, ru⟩ := vals1 r
  cases ru
  obtain ⟨ox, od, J⟩ := inst_at I ha
  obtain ⟨m, hF⟩ := I.fr
  refine bool_made (truthy_len hF I.ok.mod.kin J hn S.at_ S.fn (wpAny_mono (run_sub (dvs := []) (vs := [.ref a]) F ⟨hr.in1.in1.in1, rfl⟩ hb .nil hx I (.cons rfl .nil) h) (fun v s' hv => ?_) fun _ _ z => z))
  obtain ⟨z, H', I', rz, n, rfl, hn', q⟩ := hv
  obtain ⟨t, rfl⟩ := rz
  refine ⟨⟨by omega, by omega⟩, (n : Int), _, rfl, .bl (decide (n ≠ 0)), H', I'.tok _, ?_, q⟩
  show Value.bool _ = Value.bool _
  congr 1
  by_cases e : n = 0
  · subst e; rfl
  · rw [decide_eq_true e]
    simpa using e
/-- by the own __bool__ -/
def rBoolB (C : Addr) (sp : Sp) (E : XK) : List V → Hp → VK → Prop := fun xs H Q => ∃ a dx fs, xs = [.ref a] ∧ H a = some (.ins C dx fs) ∧ sp [.ref a] H (fun z H' => ∃ c : Bool, z = .bl c ∧ Q (.bl c) H') E
theorem call_boolB' (S : Spec1 X.K C "__bool__" f) (F : FnOk X.prog X.w X.K X.mg X.base CX k f fd ps sp) (hr : Room (k + 2) X.A) (hb : Binds X.K fd ps []) (hx : Passes CX X E) : CallR X (.type "bool") (rBoolB C sp E) := by
  intro pins s σ H xs us Q I r h
  obtain ⟨a, dx, fs, rfl, ha, h⟩ := h
  obtain ⟨u, rfl, ru⟩ := vals1 r
  cases ru
  obtain ⟨ox, od, J⟩ := inst_at I ha
  obtain ⟨m, hF⟩ := I.fr
  refine bool_made (PySem.W.truthy_K hF I.ok.mod.kin J S.at_ S.fn (wpAny_mono (run_sub (dvs := []) (vs := [.ref a]) F ⟨hr.in1.in1, rfl⟩ hb .nil hx I (.cons rfl .nil) h) (fun v s' hv => ?_) fun _ _ z => z))
  obtain ⟨z, H', I', rz, c, rfl, q⟩ := hv
  cases rz
  exact ⟨.bl c, H', I', rfl, q⟩
/-- by neither -/
def rBoolN (C : Addr) : List V → Hp → VK → Prop := fun xs H Q => ∃ a dx fs, xs = [.ref a] ∧ H a = some (.ins C dx fs) ∧ Q (.bl true) H
theorem call_boolN' (hn : PySem.W.findIn X.K (.ref C) "__bool__" = some none) (hl : PySem.W.findIn X.K (.ref C) "__len__" = some none) : CallR X (.type "bool") (rBoolN C) := by
  intro pins s σ H xs us Q I r h
  obtain ⟨a, dx, fs, rfl, ha, q⟩ := h
  obtain ⟨u, rfl, ru⟩ := vals1 r
  cases ru
  obtain ⟨ox, od, J⟩ := inst_at I ha
  obtain ⟨m, hF⟩ := I.fr
  exact bool_made (PySem.W.truthy_K0 hF I.ok.mod.kin J hn hl ⟨.bl true, H, I, rfl, q⟩)
end
end WB
namespace WB
open PySem PySem.Spec PyProof.Rows L2
theorem eqV_S {a b : List Nat} : eqV (vS a) (vS b) = decide (a = b) := by
  show (S a == S b) = decide (a = b)
  rw [Bool.eq_iff_iff, beq_iff_eq, decide_eq_true_iff]
  exact ⟨S_inj, fun e => by rw [e]⟩
theorem inV_S {x : List Nat} {ls : List (List Nat)} : inV (vS x) (ls.map vS) = decide (x ∈ ls) := by
  unfold inV
  rw [List.any_map, Bool.eq_iff_iff, List.any_eq_true, decide_eq_true_iff]
  constructor
  · rintro ⟨y, hy, e⟩
    have e : eqV (vS y) (vS x) = true := e
    rw [eqV_S] at e
    rw [← of_decide_eq_true e]; exact hy
  · intro h
    exact ⟨x, h, by show eqV (vS x) (vS x) = true; rw [eqV_S]; simp⟩
theorem flat_S : ∀ ls : List (List Nat), (ls.map vS).all flatV = true
  | [] => rfl
  | x :: r => by rw [List.map_cons, List.all_cons, flat_S r]; rfl
section
variable {K : PySem.W.Frag} {H : Hp} {Q : VK} {E : XK}
theorem s_notInL {a : Addr} {x : List Nat} {ls : List (List Nat)} (h : SqL K H a (ls.map vS)) (k : Q (.bl (!decide (x ∈ ls))) H) : rIn K true (vS x) (.ref a) H Q := ⟨a, _, rfl, .inl h, rfl, flat_S ls, by rw [inV_S]; exact k⟩
theorem s_inL {a : Addr} {x : List Nat} {ls : List (List Nat)} (h : SqL K H a (ls.map vS)) (k : Q (.bl (decide (x ∈ ls))) H) : rIn K false (vS x) (.ref a) H Q := ⟨a, _, rfl, .inl h, rfl, flat_S ls, by rw [inV_S]; exact k⟩
theorem s_notInT {a : Addr} {x : List Nat} {ls : List (List Nat)} (h : SqT K H a (ls.map vS)) (k : Q (.bl (!decide (x ∈ ls))) H) : rIn K true (vS x) (.ref a) H Q := ⟨a, _, rfl, .inr h, rfl, flat_S ls, by rw [inV_S]; exact k⟩
theorem s_inT {a : Addr} {x : List Nat} {ls : List (List Nat)} (h : SqT K H a (ls.map vS)) (k : Q (.bl (decide (x ∈ ls))) H) : rIn K false (vS x) (.ref a) H Q := ⟨a, _, rfl, .inr h, rfl, flat_S ls, by rw [inV_S]; exact k⟩
theorem s_lenSet {ta : TE} {σ : St} (k : ta σ H fun x H1 => rSetN K x H1 Q) : tLenSetS K ta σ H Q := k
theorem s_setNL {a : Addr} {ls : List (List Nat)} (h : SqL K H a (ls.map vS)) (hl : ls.length < 4000) (k : Q (.int (ndc ls.reverse : Nat)) H) : rSetN K (.ref a) H Q := .inr ⟨a, ls, rfl, h, hl, k⟩
theorem s_setNS {l : List Nat} (hl : l.length < 4000) (k : Q (.int (ndc l.reverse : Nat)) H) : rSetN K (vS l) H Q := .inl ⟨l, rfl, hl, k⟩
end
end WB
/-! sorted(..) of texts: of a text, a tuple, a list -/
namespace WB
open PySem PySem.Spec PyProof.Rows L2
/-- in order -/
def srt (ls : List (List Nat)) : List (List Nat) := ls.mergeSort fun a b => decide (a ≤ b)
theorem srt_perm (ls : List (List Nat)) : (srt ls).Perm ls := List.mergeSort_perm _ _
theorem srt_pair (ls : List (List Nat)) : (srt ls).Pairwise (· ≤ ·) := by
  have h := List.pairwise_mergeSort (le := fun a b : List Nat => decide (a ≤ b)) (fun a b c h1 h2 => decide_eq_true (List.le_trans (of_decide_eq_true h1) (of_decide_eq_true h2))) (fun a b => by
    rcases List.le_total a b with h | h
    · simp [h]
    · simp [h]) ls
  exact h.imp fun h => of_decide_eq_true h
theorem srt_unique {ys ls : List (List Nat)} (p : ys.Perm ls) (h : ys.Pairwise (· ≤ ·)) : ys = srt ls :=
  (p.trans (srt_perm ls).symm).eq_of_pairwise (fun a b _ _ h1 h2 => List.le_antisymm h1 h2) h (srt_pair ls)
theorem srt_len (ls : List (List Nat)) : (srt ls).length = ls.length := (srt_perm ls).length_eq
theorem srt_mem {ls : List (List Nat)} {x : List Nat} : x ∈ srt ls ↔ x ∈ ls := (srt_perm ls).mem_iff
theorem srt_of_perm {ls ms : List (List Nat)} (p : ls.Perm ms) : srt ls = srt ms := srt_unique ((srt_perm ls).trans p) (srt_pair ls)
theorem srt_id {ls : List (List Nat)} (h : ls.Pairwise (· ≤ ·)) : srt ls = ls := (srt_unique (List.Perm.refl ls) h).symm
theorem rising_pair : ∀ (r : List (List Nat)) (x : List Nat), risingS (S x) (r.map S) = true → (x :: r).Pairwise (· ≤ ·)
  | [], x, _ => by simp
  | y :: r, x, h => by
    rw [List.map_cons, risingS, Bool.and_eq_true, S_cps, S_cps, ltCps_eq] at h
    have h1 : x ≤ y := by
      have : ¬ y < x := by simpa using h.1
      exact List.not_lt.mp this
    have h2 := rising_pair r y h.2
    refine List.pairwise_cons.mpr ⟨fun z hz => ?_, h2⟩
    rcases List.mem_cons.mp hz with rfl | hz
    · exact h1
    · exact List.le_trans h1 ((List.pairwise_cons.mp h2).1 z hz)
theorem sortedS_pair {ls : List (List Nat)} (h : sortedS (ls.map S) = true) : ls.Pairwise (· ≤ ·) := by
  cases ls with
  | nil => simp
  | cons x r => exact rising_pair r x h
theorem perm_S {ys : List Str} {ls : List (List Nat)} (p : ys.Perm (ls.map S)) : ∃ ms : List (List Nat), ys = ms.map S ∧ ms.Perm ls := by
  refine ⟨ys.map fun z => z.cps.toList, ?_, ?_⟩
  · rw [List.map_map]
    conv => lhs; rw [← List.map_id ys]
    exact List.map_congr_left fun z _ => S_of z
  · have h := p.map fun z : Str => z.cps.toList
    rw [List.map_map] at h
    have e : ls.map ((fun z : Str => z.cps.toList) ∘ S) = ls := by
      conv => rhs; rw [← List.map_id ls]
      exact List.map_congr_left fun z _ => S_cps z
    rw [e] at h
    exact h
theorem srt_S {ys : List Str} {ls : List (List Nat)} (p : ys.Perm (ls.map S)) (h : sortedS ys = true) : ys.map V.str = (srt ls).map vS := by
  obtain ⟨ms, rfl, pm⟩ := perm_S p
  rw [srt_unique pm (sortedS_pair h), List.map_map]
  rfl
/-- what sorted takes: a text, a list or a tuple of texts -/
def SrcV (K : PySem.W.Frag) (H : Hp) (x : V) (ls : List (List Nat)) : Prop := (∃ l : List Nat, x = vS l ∧ ls = l.map fun c => [c]) ∨ (∃ a, x = .ref a ∧ (SqL K H a (ls.map vS) ∨ SqT K H a (ls.map vS)))
def rSrt (K : PySem.W.Frag) : List V → Hp → VK → Prop := fun xs H Q => ∃ (x : V) (ls : List (List Nat)), xs = [x] ∧ SrcV K H x ls ∧ ls.length < 64 ∧ ∀ p, H p = none → Q (.ref p) (upd H p (.lst ((srt ls).map vS)))
section
variable {X : Cx}
theorem collect_src {pins : List (Addr × Obj)} {σ : L2.St} {H : Hp} {s : Shared} {A : Around} {E : Value → Shared → Prop} {x : V} {v : Value} {ls : List (List Nat)} {R : List Value → Shared → Prop} (I : Inv X pins σ H s) (hh : A.handled = none) (rx : RelV x v) (hs : SrcV X.K H x ls) (h64 : ls.length < 64)
    (h : ∀ (h' : Heap) (tk : Nat) (its : List Value), (∀ b o, s.heap.get? b = some o → h'.get? b = some o) → StrsAre its (ls.map S) → R its { s with heap := h', toks := tk }) : wpAny (model X.prog X.w) A (collect v) R E s := by
  rcases hs with ⟨l, rfl, rfl⟩ | ⟨a, rfl, hq | hq⟩
  · obtain ⟨t, rfl⟩ := rx
    have hz : (S l).cps.size = l.length := by simp [S]
    rw [List.length_map] at h64
    refine wpAny_collect_str hh (S l) t (fun s' acc k g d os hi => ?_) (by rw [hz, sizeLine_eq]; omega)
    obtain ⟨h', g', d', t', o'⟩ := s'
    cases g
    cases d
    cases os
    refine h h' t' acc.toList k (L2.strs_at (by rw [Array.length_toList, hi.1, List.length_map, List.length_map, hz]) fun j v e => ?_)
    obtain ⟨c, u, hc, ev⟩ := hi.2 j v (by rw [← Array.getElem?_toList]; exact e)
    have hc : l[j]? = some c := by simpa [S] using hc
    exact ⟨S [c], u, by rw [List.getElem?_map, List.getElem?_map, hc]; rfl, ev⟩
  · obtain rfl : v = Value.ref a := rx
    obtain ⟨its, rv, pl, hz⟩ := I.list hq
    obtain ⟨o, ho, hc, n, hd⟩ := pl.isList
    have hst : StrsAre its (ls.map S) := strsAre_of (by rw [List.map_map]; exact rv)
    have e : its.toArray.size = ls.length := by rw [List.size_toArray, ← rv.length, List.length_map]
    exact wpAny_collect_seq a (.inl rfl) ho hc hd (fun h' k => h h' s.toks _ k (by simpa using hst)) (by rw [e, sizeLine_eq]; omega)
  · obtain rfl : v = Value.ref a := rx
    obtain ⟨its, rv, ⟨o, ho, hc, n, hd⟩, hz⟩ := I.tuple hq
    have hst : StrsAre its (ls.map S) := strsAre_of (by rw [List.map_map]; exact rv)
    have e : its.toArray.size = ls.length := by rw [List.size_toArray, ← rv.length, List.length_map]
    exact wpAny_collect_seq a (.inr rfl) ho hc hd (fun h' k => h h' s.toks _ k (by simpa using hst)) (by rw [e, sizeLine_eq]; omega)
theorem cr_srt (hcalm : X.calm = true) : CallR X (.builtin "sorted") (rSrt X.K) := by
  intro pins s σ H xs us Q I r q
  obtain ⟨x, ls, rfl, hs, h64, q⟩ := q
  obtain ⟨u, rfl, rx⟩ := vals1 r
  refine Calls.call_function_entry PyProof.Rows.kind_sorted PyProof.Rows.plain_sorted PyProof.Rows.entry_sorted (PyProof.Rows.args_sorted1 _) ?_
  unfold Builtin.«sorted»
  refine wpAny_bind (m := checkCount "sorted" 1 1 _) (wpAny_pure (wpAny_bind (collect_src (A := X.A.in1) I (I.ok.hd hcalm) rx hs h64 fun h' tk its hk hS => ?_)))
  have hal : its.length = ls.length := by rw [StrsAre.len_eq hS, List.length_map]
  have I1 : Inv X pins σ H { s with heap := h', toks := tk } := I.kept hk
  refine wpAny_bind (wpAny_newList ?_ (by rw [hal, sizeLine_eq]; omega))
  have hoL : (h'.push (seqObj "list" its.toArray 0)).get? h'.objs.size = some (seqObj "list" its.toArray 0) := Heap.get?_push_size _ rfl
  show wpAny _ _ _ _ _ { s with heap := h'.push (seqObj "list" its.toArray 0), toks := tk }
  refine wpAny_bind (wpAny_holding (wpAny_call_entry PyProof.Rows.slot_list_sort ⟨_, hoL, rfl⟩ PyProof.Rows.entry_list_sort (list_sort_treeK strKind_oneLt (s := { s with heap := h'.push (seqObj "list" its.toArray 0), toks := tk }) hoL hS.keysOf (fun v₁ v₂ rest e => keyKind_strs (by rw [← e]; exact hS)) (by rw [hal]; exact h64)
    fun st' hp hs => ⟨_, rfl, ?_⟩) (PyProof.Rows.args_list_sort _)))
  obtain ⟨ys, g1, g2, g3⟩ := sorted_out_str hS hp hs
  obtain ⟨e', he'⟩ := PyProof.Rows.sortedHeap_at (vs := its) (out := (arrOf st').map (·.2)) hoL
  have ey := srt_S g2 g3
  have hlen : (ys.map V.str).length ≤ sizeLine := by
    rw [ey, List.length_map, srt_len]
    exact Nat.le_trans (Nat.le_of_lt h64) (by decide)
  have q1 := q _ (I1.hok.fresh (Nat.le_refl h'.objs.size))
  rw [← ey] at q1
  refine wpAny_pure ⟨_, rfl, .ref h'.objs.size, upd H h'.objs.size (.lst (ys.map V.str)), I1.laid (t' := tk) (fun b o e => ?_) (Nat.le_refl _) (show ObjOk X.prog X.w _ _ _ (.lst (ys.map V.str)) from ⟨hlen, ((arrOf st').map (·.2)).toList, e', vals_of_strs g1, by rw [Array.toArray_toList]; exact he'⟩), rfl, q1⟩
  have hb : b < h'.objs.size := Heap.lt_size e
  rw [PyProof.Rows.sortedHeap_old (Nat.ne_of_lt hb) (by rw [size_push']; exact Nat.lt_succ_of_lt hb)]
  exact Heap.get?_push_of_some _ e
end
section
variable {K : PySem.W.Frag} {H : Hp} {Q : VK}
theorem s_srtS {l : List Nat} (h : l.length < 64) (k : ∀ p H2, H p = none → Ex [] H H2 → H2 p = some (.lst ((srt (l.map fun c => [c])).map vS)) → Q (.ref p) H2) : rSrt K [vS l] H Q := ⟨_, _, rfl, .inl ⟨l, rfl, rfl⟩, by rw [List.length_map]; exact h, s_new k⟩
theorem s_srtL {a : Addr} {ls : List (List Nat)} (hs : SqL K H a (ls.map vS)) (h : ls.length < 64) (k : ∀ p H2, H p = none → Ex [] H H2 → H2 p = some (.lst ((srt ls).map vS)) → Q (.ref p) H2) : rSrt K [.ref a] H Q := ⟨_, _, rfl, .inr ⟨a, rfl, .inl hs⟩, h, s_new k⟩
theorem s_srtT {a : Addr} {ls : List (List Nat)} (hs : SqT K H a (ls.map vS)) (h : ls.length < 64) (k : ∀ p H2, H p = none → Ex [] H H2 → H2 p = some (.lst ((srt ls).map vS)) → Q (.ref p) H2) : rSrt K [.ref a] H Q := ⟨_, _, rfl, .inr ⟨a, rfl, .inr hs⟩, h, s_new k⟩
end
end WB
/-! for i, x in enumerate(a tuple) -/
namespace WB
open PySem PySem.Spec PyProof.Rows L2
section
variable {prog : Program} {w : World} {A : Around} {E : Value → Shared → Prop} {s : Shared}
abbrev tupIt (l : Addr) : Obj := { cls := .type "tuple_iterator", data := .fields #[.ref l, .int 0 0] }
abbrev enumO (it : Addr) : Obj := { cls := .type "enumerate", data := .fields #[.none, .bool false, .ref it, rawInt 0, .none, .none] }
theorem meets_enumT (l : Addr) (items : Array Value) (n : Nat) (dct : Option Addr) (sl : Array (Option Value)) :
    Meets (Builtin.«enumerate.__new__» ⟨[.type "enumerate", .ref l], []⟩) (fun _ R s => s.heap.get? l = some { cls := .type "tuple", dict := dct, data := .seq items n, slots := sl } ∧
      R (.ok (.ret (.ref (s.heap.push (tupIt l)).objs.size))) { s with heap := (s.heap.push (tupIt l)).push (enumO s.heap.objs.size) }) :=
  .of_wp fun prog w A R s h => by
    obtain ⟨hp, g, d, tk, os⟩ := s
    obtain ⟨hl, h⟩ := h
    have f1 := sub_enumerate
    have hL : Heap.IsTuple (Shared.heap ⟨hp, g, d, tk, os⟩) l items := ⟨_, hl, rfl, n, rfl⟩
    wp_walk using wpAny_loadPart' hl
    refine wpAny_stack_any fun st => wpAny_pure ?_
    split
    · rename_i c _ _ _ _ _
      cases (c == Value.type "enumerate")
      · wp_walk using wpAny_loadPart' hl, wpAny_pyIter_tuple hL
        exact ⟨_, rfl, h⟩
      · wp_walk using wpAny_loadPart' hl, wpAny_pyIter_tuple hL
        exact ⟨_, rfl, h⟩
    · wp_walk using wpAny_loadPart' hl, wpAny_pyIter_tuple hL
      exact ⟨_, rfl, h⟩
theorem call_enumT {l : Addr} {items : Array Value} {Q : Value → Shared → Prop} (hL : s.heap.IsTuple l items)
    (h : ∀ h', IsEnum h' (s.heap.objs.size + 1) s.heap.objs.size 0 .none → h'.IsTupleIter s.heap.objs.size l 0 → (∀ b o, s.heap.get? b = some o → h'.get? b = some o) → Q (.ref (s.heap.objs.size + 1)) { s with heap := h' }) :
    wpAny (model prog w) A (call (.type "enumerate") [.ref l]) Q E s := by
  obtain ⟨⟨c, dct, dt, sl⟩, hl, hc, n, hd⟩ := hL
  replace hc : c = .type "tuple" := hc
  replace hd : dt = .seq items n := hd
  subst hc hd
  refine callType_new F.called_enumerate (by decide) (F.typeCall_enumerate_1 _) (F.newCall_enumerate_1 _) (fun o => F.args_object_init_2 o _) F.entry_enumerate_new (meets_enumT l items n dct sl) ⟨hl, ?_⟩
  have hz : (s.heap.push (tupIt l)).objs.size = s.heap.objs.size + 1 := Heap.size_push ..
  show _ ∧ _
  rw [hz]
  have he : IsEnum ((s.heap.push (tupIt l)).push (enumO s.heap.objs.size)) (s.heap.objs.size + 1) s.heap.objs.size 0 .none := by
    have := Heap.get?_push_size (s.heap.push (tupIt l)) (o := enumO s.heap.objs.size) rfl
    rw [hz] at this
    exact this
  exact ⟨⟨_, he, rfl⟩, h _ he ⟨_, Heap.get?_push_of_some _ (Heap.get?_push_size _ rfl), rfl, rfl⟩ fun b o x => Heap.get?_push_of_some _ (Heap.get?_push_of_some _ x)⟩
theorem enum_endT {e it l : Addr} {i : Nat} {items : Array Value} {old : Value} {Q : Option Value → Shared → Prop} (hh : A.handled = none) (he : IsEnum s.heap e it i old) (hit : s.heap.IsTupleIter it l i) (hl : s.heap.IsTuple l items) (hx : items[i]? = none)
    (k : ∀ h', Heap.ExtBut it s.heap h' → Q none { s with heap := h' }) : wpAny (model prog w) A (pyNext (.ref e)) Q E s := by
  have T : s.TypeIs (.ref e) "enumerate" := ⟨_, he, rfl⟩
  unfold pyNext
  refine wpAny_bind (wpAny_attempt (wpAny_callSpecial?_slot (name := Str.ofString "__next__") T F.slot_enumerate_next (wpAny_call_entry F.slot_enumerate_next T F.entry_enumerate_next ?_ (F.args_enumerate_next_1 _))))
  show wpAny _ _ (field (.ref e) 2 >>= _) _ _ _
  refine wpAny_bind (wpAny_field he rfl (x := .ref it) rfl (wpAny_bind (wpAny_nextOf_tuple_end hh hit hl hx fun h' x x1 x2 => ?_)))
  obtain ⟨o, ho, hc⟩ := x2
  exact wpAny_bind (wpAny_isInstance (T := "StopIteration") (b := true) ⟨o, ho, hc⟩ isSubtype_stop (wpAny_pure (k _ x1)))
end
def IteT (K : PySem.W.Frag) (a : Addr) : It :=
  ⟨fun i H => ∃ (xs : List V) (x : V), SqT K H a xs ∧ xs[i]? = some x, fun i H v H' => ∃ T x, v = .ref T ∧ H T = none ∧ H' = upd H T (.tup [.int (i : Nat), x]) ∧ ∀ xs, SqT K H a xs → xs[i]? = some x, fun i H => ∃ xs : List V, SqT K H a xs ∧ xs.length ≤ i⟩
theorem turn_enumT {P : Program} {w : World} {K : PySem.W.Frag} {elts : List Expr} {kk : Nat} {tpos : Pos} (a e it : Addr) :
    Turn P w K (.Tuple elts kk tpos) (IteT K a) [e, it] e (fun i h => (∃ old, IsEnum h e it ((i : Nat) : Int) old) ∧ h.IsTupleIter it a i ∧ e ≠ it ∧ a ≠ it ∧ e ≠ a) where
  mem := by simp
  obj := fun i h st b hb => by
    obtain ⟨⟨old, he⟩, ⟨o, ho, hc, hd⟩, _⟩ := st
    have e' : b = e ∨ b = it := by simpa using hb
    rcases e' with z | z
    · rw [z]; exact ⟨_, he, fun v q => nomatch q⟩
    · rw [z]; exact ⟨o, ho, fun v q => by rw [hd] at q; cases q⟩
  keep := fun i h h' st k => let ⟨⟨old, he⟩, hi, r⟩ := st; ⟨⟨old, k e (by simp) _ he⟩, hi.at fun o q => k it (by simp) o q, r⟩
  item := by
    intro X hP hw hK hc i pins s σ H E I hf st hg
    subst hP hw hK
    obtain ⟨⟨old, he⟩, hit, ne1, ne2, ne3⟩ := st
    obtain ⟨xs, x, hq, hx⟩ := hg
    obtain ⟨its, rv, p, hz⟩ := I.tuple hq
    obtain ⟨u, hu, ru⟩ := rv.get hx
    have hel : e < s.heap.objs.size := Heap.lt_size he
    have hil : it < s.heap.objs.size := by obtain ⟨_, q, _⟩ := hit; exact Heap.lt_size q
    have lt : i < its.toArray.size := by
      have := (List.getElem?_eq_some_iff.mp hu).1
      simpa using this
    refine wpAny_pyNext_enum_itemD (Draws.tuple (by simp [I.ok.hd hc]) it a ne2 its.toArray) he ⟨hit, p⟩ lt ne1 (by simp only [List.mem_cons, List.not_mem_nil, or_false, not_or]; exact ⟨ne1, ne3⟩) fun v h' tk hv ho hit' hT hsz hk => ?_
    have hv : its.toArray[i]? = some v := hv
    have ev : v = u := by
      have h2 : its.toArray[i]? = some u := by simpa using hu
      rw [h2] at hv
      exact (Option.some.inj hv).symm
    subst ev
    refine ⟨_, rfl, wpAny_letOwnedTupleGo_enum (s := { s with heap := h', toks := tk + 1 }) ho fun h'' he' sb => ?_⟩
    have hT2 : h''.get? s.heap.objs.size = some { cls := .type "tuple", data := .seq #[.int i tk, v] } := (sb.2 _ (Nat.ne_of_gt hel)).trans hT
    have new : ObjOk X.prog X.w (upd H s.heap.objs.size (.tup [.int (i : Nat), x])) h'' s.heap.objs.size (.tup [.int (i : Nat), x]) := ⟨by show 2 ≤ sizeLine; decide, [.int i tk, v], .cons ⟨_, rfl⟩ (.cons ru .nil), ⟨_, hT2, rfl, _, rfl⟩⟩
    have I1 : Inv X pins σ (upd H s.heap.objs.size (.tup [.int (i : Nat), x])) { s with heap := h'', toks := tk + 1 } :=
      I.turnedNew (ch := [e, it]) (fun b ob hb q => (sb.2 b (fun z => hb (by simp [z]))).trans (hk b ob (fun z => hb (by simp [z])) (fun z => hb (by simp [z])) q)) hf (Nat.le_refl _) new
    refine ⟨.ref s.heap.objs.size, _, I1, rfl, ⟨_, x, rfl, I.hok.fresh (Nat.le_refl _), rfl, fun ys hy => by rw [I.tuple_inj hy hq]; exact hx⟩, ⟨⟨v, ?_⟩, hit'.1.at fun o q => (sb.2 it (Ne.symm ne1)).trans q, ne1, ne2, ne3⟩, fun b hb => ?_⟩
    · have e1 : ((i + 1 : Nat) : Int) = (i : Int) + 1 := by omega
      rw [e1]; exact he'
    · have hb' : b < s.heap.objs.size := by
        have e' : b = e ∨ b = it := by simpa using hb
        rcases e' with z | z
        · rw [z]; exact hel
        · rw [z]; exact hil
      rw [upd_ne (Nat.ne_of_lt hb')]
      exact (hf b hb).1
  done := by
    intro X hP hw hK hc i pins s σ H E I hf st hg
    subst hP hw hK
    obtain ⟨⟨old, he⟩, hit, ne1, ne2, ne3⟩ := st
    obtain ⟨xs, hq, hx⟩ := hg
    obtain ⟨its, rv, p, hz⟩ := I.tuple hq
    obtain ⟨f0, f1, f2, f3, f4, f5⟩ := hf it (by simp)
    have hl := rv.length
    refine enum_endT (I.ok.hd hc) he hit p (by simp; omega) fun h' eb => ⟨rfl, I.turned (t' := s.toks) (fun b o hb q => eb b o hb q) f0 f1 f3 f4 f5⟩
  self := fun A i s Q E st h => let ⟨⟨_, he⟩, _⟩ := st; wpAny_pyIter_enum he h
def iEnumT (K : PySem.W.Frag) (ta : TA) : TI := fun σ H R => ta σ H fun vs H1 => ∃ a xs, vs = [.ref a] ∧ SqT K H1 a xs ∧ R (IteT K a) H1
theorem pi_enumT {X : Cx} {e : Expr} {ta : TA} {p pos tpos : Pos} {elts : List Expr} {kk : Nat} (hg : Gl X "enumerate") (hm : X.mg "enumerate" = none) (ha : PA X [e] ta) (hs : starEach [e] X.env = [(false, eval e X.env)] := by rfl) :
    PI X (.Tuple elts kk tpos) (.Call (.Name "enumerate" p) [e] [] pos) (iEnumT X.K ta) := by
  refine ⟨fun pins s σ H R I h => Call_ (ld_blt I hg hm boot_enumerate (PyProof.Rows.callWith_type1 (thn (ha.run pos pins s σ H _ I h) fun us s1 ⟨vs, H1, I1, r1, q1⟩ => ?_) hs rfl))⟩
  obtain ⟨a, xs, rfl, hq, q⟩ := q1
  obtain ⟨u, rfl, ru⟩ := vals1 r1
  cases ru
  obtain ⟨its, rv, p', hz⟩ := I1.tuple hq
  have lt : a < s1.heap.objs.size := by obtain ⟨o, ho, _⟩ := p'; exact Heap.lt_size ho
  refine call_enumT p' fun h' he hit hk => wpAny_pyIter_enum he ?_
  have I2 : Inv X pins σ H1 { s1 with heap := h' } := I1.kept (t' := s1.toks) hk
  refine ⟨s1.heap.objs.size + 1, [s1.heap.objs.size + 1, s1.heap.objs.size], _, _, H1, rfl, I2, turn_enumT a (s1.heap.objs.size + 1) s1.heap.objs.size, ⟨⟨.none, he⟩, hit, Nat.succ_ne_self _, Nat.ne_of_lt lt, Nat.ne_of_gt (Nat.lt_succ_of_lt lt)⟩, fun b hb => ?_, q⟩
  have e' : b = s1.heap.objs.size + 1 ∨ b = s1.heap.objs.size := by simpa using hb
  have hle : s1.heap.objs.size ≤ b := by
    rcases e' with z | z
    · rw [z]; exact Nat.le_succ _
    · rw [z]; exact Nat.le_refl _
  exact I1.fpOk hle (I1.hok.fresh hle)
theorem walk_enumT {K : PySem.W.Frag} {a : Addr} {xs : List V} : Walk (IteT K a) xs.length (fun H => SqT K H a xs) (YPair (fun i => some (.int (i : Nat))) (fun i => xs[i]?)) := by
  refine ⟨fun i _ hi q => ⟨xs, xs[i], q, by simp [hi]⟩, fun _ q => ⟨xs, q, Nat.le_refl _⟩, fun i H v H' _ q y => ?_⟩
  obtain ⟨T, x, h1, h2, h3, h4⟩ := y
  exact ⟨T, .int (i : Nat), x, h1, h2, h3, rfl, h4 xs q⟩
theorem s_enumT {K : PySem.W.Frag} {ta : TA} {σ : L2.St} {H : Hp} {R : It → Hp → Prop} (k : ta σ H fun vs H1 => ∃ a xs, vs = [.ref a] ∧ SqT K H1 a xs ∧ R (IteT K a) H1) : iEnumT K ta σ H R := k
theorem s_enumTA {K : PySem.W.Frag} {a : Addr} {xs : List V} {H : Hp} {C : Addr → Prop} (h : SqT K H a xs) (k : C a) : ∃ b ys, [V.ref a] = [V.ref b] ∧ SqT K H b ys ∧ C b := ⟨a, xs, rfl, h, k⟩
end WB
namespace WB
open PySem PySem.Spec PyProof.Rows L2
/-! ### kinds: plain -/
def sgn (s : List Nat) : List Nat := (srt (s.map fun c => [c])).flatten
def prs (s : List Nat) : List (List Nat) := s.flatMap fun a => s.map fun b => [a, b]
def goodS (s : List Nat) : Prop := isWord s LET = true ∧ s.length ≤ 4 ∧ s.Nodup
def goodP (s : List Nat) (ps : List (List Nat)) : Prop := ps.Nodup ∧ ∀ p ∈ ps, p.length = 2 ∧ ∀ c ∈ p, c ∈ s
def prevC (w : List Nat) (i : Nat) : Nat := w.getD ((i + (w.length - 1)) % w.length) 0
def closesB (w : List Nat) (ps : List (List Nat)) : Bool := (List.range w.length).all fun i => decide ([prevC w i, w.getD i 0] ∈ ps)
theorem closes_iff {w : List Nat} {ps : List (List Nat)} : closesB w ps = true ↔ ∀ i, i < w.length → [prevC w i, w.getD i 0] ∈ ps := by
  unfold closesB
  rw [List.all_eq_true]
  constructor
  · intro h i hi
    exact of_decide_eq_true (h i (List.mem_range.mpr hi))
  · intro h i hi
    exact decide_eq_true (h i (List.mem_range.mp hi))
theorem closes_srt {w : List Nat} {ps : List (List Nat)} : closesB w (srt ps) = closesB w ps := by
  rw [Bool.eq_iff_iff, closes_iff, closes_iff]
  simp only [srt_mem]
theorem closes_rot {w : List Nat} {ps : List (List Nat)} {j : Nat} (hj : j < w.length) : closesB (rot w j) ps = true ↔ closesB w ps = true := by
  rw [closes_iff, closes_iff, rot_len]
  have hp : 0 < w.length := by omega
  have g : ∀ i, i < w.length → (rot w j).getD i 0 = w.getD ((j + i) % w.length) 0 := fun i hi => by
    rw [List.getD_eq_getElem?_getD, List.getD_eq_getElem?_getD, rot_get hj hi]
  have q : ∀ i, i < w.length → prevC (rot w j) i = prevC w ((j + i) % w.length) := fun i hi => by
    unfold prevC
    rw [rot_len, g _ (Nat.mod_lt _ hp)]
    congr 1
    rw [Nat.add_mod_mod, Nat.mod_add_mod]
    congr 1
    omega
  constructor
  · intro h i hi
    have := h ((i + (w.length - j)) % w.length) (Nat.mod_lt _ hp)
    rw [g _ (Nat.mod_lt _ hp), q _ (Nat.mod_lt _ hp)] at this
    have e : (j + (i + (w.length - j)) % w.length) % w.length = i := by
      rw [Nat.add_mod_mod, show j + (i + (w.length - j)) = i + w.length by omega, Nat.add_mod_right, Nat.mod_eq_of_lt hi]
    rw [e] at this
    exact this
  · intro h i hi
    rw [g i hi, q i hi]
    exact h _ (Nat.mod_lt _ hp)
theorem closes_least {w : List Nat} {ps : List (List Nat)} (hw : w ≠ []) : closesB (leastT w) ps = closesB w ps := by
  obtain ⟨j, hj, e⟩ := leastT_rot hw
  rw [e, Bool.eq_iff_iff, closes_rot hj]
theorem mem_prs {s p : List Nat} : p ∈ prs s ↔ ∃ a ∈ s, ∃ b ∈ s, p = [a, b] := by
  unfold prs
  rw [List.mem_flatMap]
  constructor
  · rintro ⟨a, ha, h⟩
    obtain ⟨b, hb, e⟩ := List.mem_map.mp h
    exact ⟨a, ha, b, hb, e.symm⟩
  · rintro ⟨a, ha, b, hb, e⟩
    exact ⟨a, ha, List.mem_map.mpr ⟨b, hb, e.symm⟩⟩
theorem closes_all {s w : List Nat} (h : ∀ c ∈ w, c ∈ s) : closesB w (prs s) = true := by
  rw [closes_iff]
  intro i hi
  have g : ∀ k, k < w.length → w.getD k 0 ∈ s := fun k hk => by
    rw [List.getD_eq_getElem?_getD, List.getElem?_eq_getElem hk]
    exact h _ (List.getElem_mem hk)
  exact mem_prs.mpr ⟨_, g _ (Nat.mod_lt _ (by omega)), _, g i hi, rfl⟩
theorem prs_len (s : List Nat) : (prs s).length = s.length * s.length := by
  unfold prs
  rw [List.length_flatMap]
  simp only [List.length_map]
  have : ∀ (l : List Nat) (n : Nat), (l.map fun _ => n).sum = l.length * n := by
    intro l n
    induction l with
    | nil => simp
    | cons x r ih => rw [List.map_cons, List.sum_cons, ih, List.length_cons, Nat.succ_mul, Nat.add_comm]
  exact this s _
theorem prs_nodup {s : List Nat} (h : s.Nodup) : (prs s).Nodup := by
  have key : ∀ l : List Nat, l.Nodup → (l.flatMap fun a => s.map fun b => [a, b]).Nodup := by
    intro l
    induction l with
    | nil => simp
    | cons a l ih =>
      intro hl
      obtain ⟨h1, h2⟩ := List.nodup_cons.mp hl
      rw [List.flatMap_cons, List.nodup_append]
      refine ⟨?_, ih h2, ?_⟩
      · exact List.Pairwise.map _ (fun x y hxy e => hxy (by simpa using e)) h
      · intro x hx y hy e
        obtain ⟨b, _, rfl⟩ := List.mem_map.mp hx
        obtain ⟨a', ha', hy⟩ := List.mem_flatMap.mp hy
        obtain ⟨b', _, rfl⟩ := List.mem_map.mp hy
        have : a = a' := by simpa using (List.cons.inj e).1
        exact h1 (this ▸ ha')
  exact key s h
theorem goodP_prs {s : List Nat} (h : s.Nodup) : goodP s (prs s) := ⟨prs_nodup h, fun p hp => by
  obtain ⟨a, ha, b, hb, rfl⟩ := mem_prs.mp hp
  refine ⟨rfl, fun c hc => ?_⟩
  simp only [List.mem_cons, List.not_mem_nil, or_false] at hc
  rcases hc with rfl | rfl <;> assumption⟩
theorem goodP_sub {s : List Nat} {ps qs : List (List Nat)} (h : goodP s ps) (hs : qs.Sublist ps) : goodP s qs := ⟨h.1.sublist hs, fun p hp => h.2 p (hs.subset hp)⟩
theorem goodP_perm {s : List Nat} {ps qs : List (List Nat)} (h : goodP s ps) (hs : qs.Perm ps) : goodP s qs := ⟨hs.nodup_iff.mpr h.1, fun p hp => h.2 p (hs.mem_iff.mp hp)⟩
/-! ### what is known of the class Kind -/
structure KindK (K : PySem.W.Frag) : Prop where
  cl : Cls K (He.ga K "Kind")
  na1 : NoAttr K (He.ga K "Kind") "letters"
  na2 : NoAttr K (He.ga K "Kind") "allowed"
  ty : ∀ (H : Hp) (a dx : Addr) (fs : List (Str × V)), H a = some (.ins (He.ga K "Kind") dx fs) → TyX K H (.ref a) (.ref (He.ga K "Kind"))
  me : PySem.W.kitOne K (.ref (He.ga K "Kind")) (.ref (He.ga K "Kind")) = some true
  no : ∀ n ∈ KD, PySem.W.kitOne K (.type n) (.ref (He.ga K "Kind")) = some false
  nr : PySem.W.kitOne K (.ref (He.ga K "Kind")) (.ref (He.ga K "Ring")) = some false
  rn : PySem.W.kitOne K (.ref (He.ga K "Ring")) (.ref (He.ga K "Kind")) = some false
def KindAt (K : PySem.W.Frag) (H : Hp) (a : Addr) (l : List Nat) (ps : List (List Nat)) : Prop := ∃ dx t, H a = some (.ins (He.ga K "Kind") dx [("letters", vS l), ("allowed", .ref t)]) ∧ SqT K H t (ps.map vS)
section
variable {K : PySem.W.Frag} {H H' : Hp} {a p : Addr} {l : List Nat} {ps : List (List Nat)} {Q : VK} {E : XK}
theorem KindAt.ex0 (e : Ex [] H H') (h : KindAt K H a l ps) : KindAt K H' a l ps := by
  obtain ⟨dx, t, h1, h2⟩ := h
  exact ⟨dx, t, e a _ (by simp) h1, e.sqT (by simp) h2⟩
/-- a tuple is no list -/
theorem sqT_pool {t : Addr} {xs : List V} (hp : PoolAt H p) (e : Ex [p] H H') (h : SqT K H t xs) : SqT K H' t xs := by
  obtain ⟨x, y, z, hp⟩ := hp
  rcases h with (h | ⟨o, h⟩) | h
  · exact e.sqT (by simp only [List.mem_singleton]; intro w; rw [w, hp] at h; cases h) (.inl (.inl h))
  · exact e.sqT (by simp only [List.mem_singleton]; intro w; rw [w, hp] at h; cases h) (.inl (.inr ⟨o, h⟩))
  · exact .inr h
theorem KindAt.exP (hp : PoolAt H p) (e : Ex [p] H H') (h : KindAt K H a l ps) : KindAt K H' a l ps := by
  obtain ⟨dx, t, h1, h2⟩ := h
  refine ⟨dx, t, e a _ ?_ h1, sqT_pool hp e h2⟩
  obtain ⟨x, y, z, hp⟩ := hp
  simp only [List.mem_singleton]
  intro w
  rw [w, hp] at h1
  cases h1
/-! ### promises -/
def sp_check_signs (K : PySem.W.Frag) : Sp := fun vs H Q _ => ∃ s : List Nat, vs = [vS s] ∧ goodS s ∧ ∀ H', Ex [] H H' → Q .non H'
def sp_check_pairs (K : PySem.W.Frag) : Sp := fun vs H Q _ => ∃ (s : List Nat) (t : Addr) (ps : List (List Nat)), vs = [vS s, .ref t] ∧ SqT K H t (ps.map vS) ∧ goodP s ps ∧ ps.length < 64 ∧ ∀ H', Ex [] H H' → Q .non H'
def PairsV (K : PySem.W.Frag) (H : Hp) (v : V) (s : List Nat) (ps : List (List Nat)) : Prop := (v = .non ∧ ps = prs s) ∨ ∃ t, v = .ref t ∧ SqT K H t (ps.map vS) ∧ goodP s ps ∧ ps.length < 64
def sp_Kind_init (K : PySem.W.Frag) : Sp := fun vs H Q _ => ∃ (x dx : Addr) (s : List Nat) (v : V), vs = [.ref x, vS s, v] ∧ goodS s ∧ H x = some (.ins (He.ga K "Kind") dx []) ∧ ∃ ps, PairsV K H v s ps ∧ ∀ H', Ex [x] H H' → KindAt K H' x (sgn s) (srt ps) → Q .non H'
def sp_Kind_closes (K : PySem.W.Frag) : Sp := fun vs H Q _ => ∃ (a : Addr) (w : List Nat), vs = [.ref a, vS w] ∧ ∃ l ps, KindAt K H a l ps ∧ w.length ≤ 600 ∧ ∀ H', Ex [] H H' → Q (.bl (closesB w ps)) H'
def NoRingV (K : PySem.W.Frag) (H : Hp) (v : V) : Prop := (∃ n, Kd K H v n) ∨ ∃ a l ps, v = .ref a ∧ KindAt K H a l ps
def sp_Kind_contains (K : PySem.W.Frag) : Sp := fun vs H Q _ => ∃ (a : Addr) (v : V), vs = [.ref a, v] ∧ ∃ l ps, KindAt K H a l ps ∧ ((∃ b w, v = .ref b ∧ RingAt K H b w ∧ w.length ≤ 600 ∧ ∀ H', Ex [] H H' → Q (.bl (closesB w ps)) H') ∨ (NoRingV K H v ∧ Q (.bl false) H))
theorem u_check_signs {s : List Nat} (h : goodS s) (k : ∀ H', Ex [] H H' → Q .non H') : sp_check_signs K ([vS s] ++ []) H Q E := ⟨_, rfl, h, k⟩
theorem u_check_pairs {s : List Nat} {t : Addr} (ht : SqT K H t (ps.map vS)) (h : goodP s ps) (hl : ps.length < 64) (k : ∀ H', Ex [] H H' → Q .non H') : sp_check_pairs K ([vS s, .ref t] ++ []) H Q E := ⟨_, _, _, rfl, ht, h, hl, k⟩
theorem u_makeKind {s : List Nat} {v : V} {us dvs : List V} (eu : us ++ dvs = [vS s, v]) (hs : goodS s) (hp : PairsV K H v s ps) (k : ∀ x H', H x = none → Ex [] H H' → KindAt K H' x (sgn s) (srt ps) → Q (.ref x) H') : MakeG (He.ga K "Kind") (sp_Kind_init K) dvs E us H Q := by
  intro x dx hx hdx ne
  rw [eu]
  have e0 : Ex [] H (upd (upd H dx (.own x)) x (.ins (He.ga K "Kind") dx [])) := fun b o _ hb => by rw [upd_ne (ne_of_none hb hx), upd_ne (ne_of_none hb hdx)]; exact hb
  have hp2 : PairsV K (upd (upd H dx (.own x)) x (.ins (He.ga K "Kind") dx [])) v s ps := by
    rcases hp with h | ⟨t, h1, h2, h3⟩
    · exact .inl h
    · exact .inr ⟨t, h1, e0.sqT (by simp) h2, h3⟩
  refine ⟨x, dx, s, v, rfl, hs, upd_same, ps, hp2, fun H' e h => ⟨rfl, k x H' hx ?_ h⟩⟩
  intro b o _ hb
  exact e b o (by simpa using ne_of_none hb hx) (e0 b o (by simp) hb)
theorem u_inKindR {a b : Addr} {w : List Nat} {neg : Bool} (h : KindAt K H a l ps) (hr : RingAt K H b w) (hw : w.length ≤ 600) (k : ∀ H', Ex [] H H' → Q (.bl (if neg then !closesB w ps else closesB w ps)) H') : rInO (He.ga K "Kind") neg (sp_Kind_contains K) E (.ref b) (.ref a) H Q := by
  obtain ⟨dx, t, h1, h2⟩ := id h
  exact ⟨a, dx, _, rfl, h1, _, _, rfl, l, ps, h, .inl ⟨b, w, rfl, hr, hw, fun H' e => ⟨_, rfl, k H' e⟩⟩⟩
theorem u_inKindN {v : V} {neg : Bool} (h : KindAt K H a l ps) (hv : NoRingV K H v) (k : Q (.bl (if neg then !false else false)) H) : rInO (He.ga K "Kind") neg (sp_Kind_contains K) E v (.ref a) H Q := by
  obtain ⟨dx, t, h1, h2⟩ := id h
  exact ⟨a, dx, _, rfl, h1, _, _, rfl, l, ps, h, .inr ⟨hv, ⟨_, rfl, k⟩⟩⟩
theorem u_methKind {m : Str} {sp : Sp} {dvs : List V} {tr : TA} {σ : St} (h : KindAt K H a l ps) (hm : (m == ("letters" : Str)) = false) (hm2 : (m == ("allowed" : Str)) = false) (k : tr σ H fun vs H2 => sp (.ref a :: (vs ++ dvs)) H2 Q E) : MethG (He.ga K "Kind") m sp dvs E tr σ (.ref a) H Q := by
  obtain ⟨dx, t, h, _⟩ := h
  refine ⟨a, dx, _, rfl, h, ?_, k⟩
  simp only [List.lookup, hm, hm2]
theorem u_fldAllowed (F : KindK K) (h : KindAt K H a l ps) (k : ∀ t, SqT K H t (ps.map vS) → Q (.ref t) H) : FldG K "allowed" (.ref a) H Q := by
  obtain ⟨dx, t, h, ht⟩ := h
  exact ⟨a, _, dx, _, _, rfl, h, F.cl, F.na2, rfl, k t ht⟩
theorem u_fldLetters (F : KindK K) (h : KindAt K H a l ps) (k : Q (vS l) H) : FldG K "letters" (.ref a) H Q := by
  obtain ⟨dx, t, h, ht⟩ := h
  exact ⟨a, _, dx, _, _, rfl, h, F.cl, F.na1, rfl, k⟩
theorem u_isiKR (F : KindK K) (h : KindAt K H a l ps) (k : Q (.bl false) H) : rIsi K [.ref a, .ref (He.ga K "Ring")] H Q := by
  obtain ⟨dx, t, h, _⟩ := h
  exact ⟨_, _, _, _, _, rfl, .own _, F.ty _ _ _ _ h, F.nr, k⟩
theorem u_isiNR (F : RingK K) {v : V} {n : String} (h : Kd K H v n) (k : Q (.bl false) H) : rIsi K [v, .ref (He.ga K "Ring")] H Q := ⟨_, _, _, _, _, rfl, .own _, h.1, F.no n h.2, k⟩
/-! steps -/
def rTupOf (K : PySem.W.Frag) : List V → Hp → VK → Prop := fun xs H Q => ∃ p ys, xs = [.ref p] ∧ ((SqL K H p ys ∧ ∀ l, H l = none → Q (.ref l) (upd H l (.tup ys))) ∨ (SqT K H p ys ∧ Q (.ref p) H))
theorem s_tupOf {b : Addr} {xs : List V} (h : SqL K H b xs) (k : ∀ q H2, H q = none → Ex [] H H2 → H2 q = some (.tup xs) → Q (.ref q) H2) : rTupOf K [.ref b] H Q := ⟨b, xs, rfl, .inl ⟨h, s_new k⟩⟩
theorem s_notN {v : V} (k : Q (.bl (!decide (v = .non))) H) : rNotN1 v .non H Q := ⟨rfl, k⟩
theorem s_isN {v : V} (k : Q (.bl (decide (v = .non))) H) : rIsN1 v .non H Q := ⟨rfl, k⟩
theorem s_listOfL {b : Addr} {xs : List V} (h : SqL K H b xs) (k : ∀ q H2, H q = none → Ex [] H H2 → H2 q = some (.lst xs) → Q (.ref q) H2) : rListOf K [.ref b] H Q := ⟨b, xs, rfl, .inl h, s_new k⟩
end
end WB
namespace WB
open PySem PySem.Spec PyProof.Rows L2
/-! ### a comprehension over two texts -/
def Lc2W (J : It) (g : TG) (tt : TT) (wi1 : TI) (g1 : TG) (tt1 : TT) (te : TE) (vs vs1 : List Nat) (σ : St) (H1 : Hp) (Q : VK) : Prop := ∀ D, H1 D = none → ∃ W : Nat → Nat → Hp → Prop, (∃ m, W 0 m (upd H1 D (.lst []))) ∧ ∀ i m H, W i m H →
  (J.stop i H ∧ Q (.ref D) H) ∨ (J.go i H ∧ ∃ Nx : Hp → Prop, (∀ H', Nx H' → ∃ m', m' < m ∧ W (i + 1) m' H') ∧ ∀ x H', J.yld i H x H' → g x (wipe σ vs) H' fun σ2 H2 => wipe σ2 vs = wipe σ vs ∧ tt σ2 H2 fun b H3 =>
    if b = true then wi1 σ2 H3 fun J1 H4 => ∃ W1 : Nat → Nat → Hp → Prop, (∃ m, W1 0 m H4) ∧ ∀ j k H, W1 j k H →
      (J1.stop j H ∧ Nx H) ∨ (J1.go j H ∧ ∃ Nx1 : Hp → Prop, (∀ H', Nx1 H' → ∃ k', k' < k ∧ W1 (j + 1) k' H') ∧ ∀ x H', J1.yld j H x H' → g1 x (wipe σ2 vs1) H' fun σ3 H5 => wipe σ3 vs1 = wipe σ2 vs1 ∧ tt1 σ3 H5 fun b H6 =>
        if b = true then te σ3 H6 fun y H7 => ∃ acc, H7 D = some (.lst acc) ∧ acc.length < sizeLine ∧ Nx1 (upd H7 D (.lst (acc ++ [y]))) else Nx1 H6)
    else Nx H3)
theorem s_lc2 {wi wi1 : TI} {g g1 : TG} {tt tt1 : TT} {te : TE} {vs vs1 : List Nat} {σ : St} {H : Hp} {Q : VK} (k : wi σ H fun J H1 => Lc2W J g tt wi1 g1 tt1 te vs vs1 σ H1 Q) : tLc2 wi g tt wi1 g1 tt1 te vs vs1 σ H Q := k
def vals2 (val : Nat → Nat → V) (l m : List Nat) : List V := l.flatMap fun c => m.map fun d => val c d
theorem vals2_snoc {val : Nat → Nat → V} {l m : List Nat} {i c : Nat} (h : l[i]? = some c) : vals2 val (l.take (i + 1)) m = vals2 val (l.take i) m ++ m.map (val c) := by
  unfold vals2
  rw [List.take_add_one, h]
  simp
theorem vals2_len {val : Nat → Nat → V} {m : List Nat} : ∀ l : List Nat, (vals2 val l m).length = l.length * m.length
  | [] => by simp [vals2]
  | c :: l => by
    have := vals2_len (val := val) (m := m) l
    unfold vals2 at this ⊢
    rw [List.flatMap_cons, List.length_append, this, List.length_map, List.length_cons, Nat.succ_mul, Nat.add_comm]
theorem lc2_SS {l m : List Nat} {j1 j2 k : Nat} {te : TE} {σ : St} {H : Hp} {Q : VK} (ne : j1 ≠ j2) (hk : ∀ c, ((wipe σ [j1, j2]).set j1 (some (vS [c])))[k]? = some (some (vS m))) (hl : l.length ≤ 600) (hm : m.length ≤ 600) (val : Nat → Nat → V)
    (h : ∀ (c d : Nat) (H1 : Hp) (C : VK), c ∈ l → d ∈ m → Ex [] H H1 → (∀ H2, Ex [] H1 H2 → C (val c d) H2) → te ((wipe ((wipe σ [j1, j2]).set j1 (some (vS [c]))) [j2]).set j2 (some (vS [d]))) H1 C)
    (q : ∀ D H', H D = none → Ex [] H H' → H' D = some (.lst (vals2 val l m)) → Q (.ref D) H') : Lc2W (Its (S l)) (gName j1) tYes (iStr (tVar k)) (gName j2) tYes te [j1, j2] [j2] σ H Q := by
  intro D hD
  have hs : ∀ z : List Nat, (S z).cps.size = z.length := fun z => by simp [S]
  have w1 := walk_str (z := S l)
  have w2 := walk_str (z := S m)
  rw [hs] at w1 w2
  refine ⟨fun i r H' => r = l.length - i ∧ i ≤ l.length ∧ Ex [] H H' ∧ H' D = some (.lst (vals2 val (l.take i) m)), ⟨_, rfl, Nat.zero_le _, Ex.new hD, by rw [upd_same]; rfl⟩, ?_⟩
  rintro i r H1 ⟨rfl, hi, e1, h1⟩
  by_cases hlt : i < l.length
  rotate_left
  · have : i = l.length := by omega
    subst this
    rw [List.take_length] at h1
    exact .inl ⟨w1.stops _ trivial, q D H1 hD e1 h1⟩
  refine .inr ⟨w1.goes _ _ hlt trivial, fun H' => Ex [] H H' ∧ H' D = some (.lst (vals2 val (l.take (i + 1)) m)), fun H' hn => ⟨_, by omega, rfl, by omega, hn.1, hn.2⟩, fun x H2 hy => ?_⟩
  obtain ⟨rfl, c, hc, rfl⟩ := w1.yields _ _ _ _ hlt trivial hy
  have hc : l[i]? = some c := by simpa [S] using hc
  refine ⟨?_, ?_⟩
  · show (((((σ.set j2 none).set j1 none).set j1 (some (vS [c]))).set j2 none).set j1 none) = (σ.set j2 none).set j1 none
    rw [List.set_set, List.set_comm (l := σ.set j2 none) _ _ ne, List.set_set, List.set_set]
  refine s_yes (s_T rfl ?_)
  refine ⟨vS m, hk c, S m, rfl, ?_⟩
  refine ⟨fun j r H' => r = m.length - j ∧ j ≤ m.length ∧ Ex [] H H' ∧ H' D = some (.lst (vals2 val (l.take i) m ++ (m.take j).map (val c))), ⟨_, rfl, Nat.zero_le _, e1, by simpa using h1⟩, ?_⟩
  rintro j r H3 ⟨rfl, hj, e3, h3⟩
  by_cases hlt2 : j < m.length
  rotate_left
  · have : j = m.length := by omega
    subst this
    rw [List.take_length, ← vals2_snoc hc] at h3
    exact .inl ⟨w2.stops _ trivial, e3, h3⟩
  refine .inr ⟨w2.goes _ _ hlt2 trivial, fun H' => Ex [] H H' ∧ H' D = some (.lst (vals2 val (l.take i) m ++ (m.take (j + 1)).map (val c))), fun H' hn => ⟨_, by omega, rfl, by omega, hn.1, hn.2⟩, fun x H4 hy => ?_⟩
  obtain ⟨rfl, d, hd, rfl⟩ := w2.yields _ _ _ _ hlt2 trivial hy
  have hd : m[j]? = some d := by simpa [S] using hd
  refine ⟨wipe1 _ _ _, s_yes (s_T rfl ?_)⟩
  refine h c d _ _ (List.mem_of_getElem? hc) (List.mem_of_getElem? hd) e3 fun H5 e5 => ⟨_, e5 D _ (by simp) h3, ?_, ?_, ?_⟩
  · rw [List.length_append, vals2_len, List.length_map, List.length_take, List.length_take]
    have a1 : min i l.length * m.length ≤ 600 * 600 := Nat.mul_le_mul (by omega) hm
    exact Nat.lt_of_le_of_lt (show _ ≤ 361000 by omega) (by decide)
  · intro b o _ hb
    rw [upd_ne (ne_of_none hb hD)]
    exact e5 b o (by simp) (e3 b o (by simp) hb)
  · rw [upd_same, List.take_add_one, hd, List.map_append, ← List.append_assoc]
    rfl
/-! ### the law's own defs about kinds -/
def sp_law_shuffled (K : PySem.W.Frag) : Sp := fun vs H Q _ => ∃ (a t : Addr) (ls : List (List Nat)), vs = [.ref a, .ref t] ∧ SqL K H t (ls.map vS) ∧ t ≠ a ∧ ls.length ≤ 600 ∧ PoolAt H a ∧
  ∀ (ms : List (List Nat)) (p : Addr) (H' : Hp), ms.Perm ls → H p = none → Ex [a] H H' → PoolAt H' a → H' p = some (.lst (ms.map vS)) → Q (.ref p) H'
def sp_law_every (K : PySem.W.Frag) : Sp := fun vs H Q _ => ∃ s : List Nat, vs = [vS s] ∧ s.length ≤ 26 ∧ ∀ p H', H p = none → Ex [] H H' → H' p = some (.lst ((prs s).map vS)) → Q (.ref p) H'
def sp_law_couples (K : PySem.W.Frag) : Sp := fun vs H Q _ => ∃ (a : Addr) (s : List Nat), vs = [.ref a, vS s] ∧ goodS s ∧ PoolAt H a ∧ ∀ (ps : List (List Nat)) (p : Addr) (H' : Hp), goodP s ps → ps.length ≤ 16 → H p = none → Ex [a] H H' → PoolAt H' a → H' p = some (.lst (ps.map vS)) → Q (.ref p) H'
section
variable {K : PySem.W.Frag} {H : Hp} {Q : VK} {E : XK}
theorem u_shuffled {a t : Addr} {ls : List (List Nat)} (ht : SqL K H t (ls.map vS)) (ne : t ≠ a) (hl : ls.length ≤ 600) (hp : PoolAt H a) (k : ∀ (ms : List (List Nat)) (p : Addr) (H' : Hp), ms.Perm ls → H p = none → Ex [a] H H' → PoolAt H' a → H' p = some (.lst (ms.map vS)) → Q (.ref p) H') : sp_law_shuffled K ([.ref a, .ref t] ++ []) H Q E := ⟨_, _, _, rfl, ht, ne, hl, hp, k⟩
theorem u_every {s : List Nat} (hl : s.length ≤ 26) (k : ∀ p H', H p = none → Ex [] H H' → H' p = some (.lst ((prs s).map vS)) → Q (.ref p) H') : sp_law_every K ([vS s] ++ []) H Q E := ⟨_, rfl, hl, k⟩
theorem u_couples {a : Addr} {s : List Nat} (hs : goodS s) (hp : PoolAt H a) (k : ∀ (ps : List (List Nat)) (p : Addr) (H' : Hp), goodP s ps → ps.length ≤ 16 → H p = none → Ex [a] H H' → PoolAt H' a → H' p = some (.lst (ps.map vS)) → Q (.ref p) H') : sp_law_couples K ([.ref a, vS s] ++ []) H Q E := ⟨_, _, rfl, hs, hp, k⟩
/-- over a list, the pool changing: any part of it that keeps the order -/
theorem lc_subL {a b : Addr} {ls : List (List Nat)} {j : Nat} {tt : TT} {σ : St} (hq : H b = some (.lst (ls.map vS))) (hb : b ≠ a) (hj : j < σ.length) (hn : ls.length ≤ 100000) (hp : PoolAt H a)
    (h : ∀ (x : List Nat) (H1 : Hp) (R : Bool → Hp → Prop), x ∈ ls → Ex [a] H H1 → PoolAt H1 a → (∀ c H2, Ex [a] H1 H2 → PoolAt H2 a → R c H2) → tt ((wipe σ [j]).set j (some (vS x))) H1 R)
    (k : ∀ D H' (ms : List (List Nat)), H D = none → Ex [a] H H' → PoolAt H' a → ms.Sublist ls → H' D = some (.lst (ms.map vS)) → Q (.ref D) H') : LcW (Itl K b) (gName j) tt (tVar j) [j] σ H Q := by
  refine lc_run (walk_list (xs := ls.map vS)) (by rw [List.length_map]; exact hn) [a] (fun H1 => PoolAt H1 a) (fun i acc _ => ∃ ms : List (List Nat), acc = ms.map vS ∧ ms.Sublist (ls.take i)) (fun z hz => by rw [List.mem_singleton.mp hz]; exact hp.there) hp ⟨[], rfl, by simp⟩ (fun H1 D o nD r => r.upd nD) (fun _ _ _ _ _ _ h => h) (fun H1 e => SqL.of (e b _ (by simpa using hb) hq)) ?_ ?_
  · rintro i acc x H1 H2 C1 C0 hi e r ⟨ms, rfl, hms⟩ ⟨rfl, hx⟩ k1 k0
    rw [List.length_map] at hi
    rw [List.getElem?_map, List.getElem?_eq_getElem hi] at hx
    cases hx
    refine ⟨wipe1 _ _ _, ?_⟩
    refine h ls[i] _ _ (List.getElem_mem hi) e r fun c H3 e3 r3 => ?_
    have hsub : (ls.take i).Sublist (ls.take (i + 1)) := by rw [List.take_add_one]; exact List.sublist_append_left _ _
    refine s_2 (fun _ => ?_) (fun _ => ?_)
    · refine ⟨vS ls[i], ?_, k1 _ _ e3 r3 ⟨ms ++ [ls[i]], by simp, ?_⟩⟩
      · show ((σ.set j none).set j (some (vS ls[i])))[j]? = _
        rw [List.set_set, List.getElem?_set_self hj]
      · rw [List.take_add_one, List.getElem?_eq_getElem hi]
        exact hms.append (List.Sublist.refl _)
    · exact k0 _ e3 r3 ⟨ms, rfl, hms.trans hsub⟩
  · rintro D H' ys hD e r hd _ ⟨ms, rfl, hms⟩
    rw [List.length_map, List.take_length] at hms
    exact k D H' ms hD e r hms hd
/-- t[a:b]: the tuple itself, or a new one -/
theorem s_slA {a : Addr} {xs : List V} {lo hi : Option Int} (h : SqT K H a xs) (k : ∀ q H2, Ex [] H H2 → SqT K H2 q (cutV xs lo hi) → Q (.ref q) H2) : rSlA K (.ref a) lo hi H Q := by
  refine ⟨a, xs, rfl, h, fun hw => ?_, fun _ p hp => k p _ (Ex.new hp) (SqT.of upd_same)⟩
  have e : cutV xs lo hi = xs := by
    unfold cutV
    rw [hw.1, hw.2]
    simp
  have := k a H Ex.rfl
  rw [e] at this
  exact this h
theorem cutV_to {xs : List V} {n : Int} (h0 : 0 ≤ n) : cutV xs none (some n) = xs.take n.toNat := by
  unfold cutV
  have e : HT.sIx xs.length xs.length (some n) = min n.toNat xs.length := by
    show (if n < 0 then (n + (xs.length : Int)).toNat else min n.toNat xs.length) = _
    rw [if_neg (by omega)]
  have e2 : HT.sIx xs.length 0 none = 0 := rfl
  rw [e, e2]
  rcases Nat.le_total n.toNat xs.length with h | h
  · rw [Nat.min_eq_left h]; simp
  · rw [Nat.min_eq_right h, List.take_of_length_le h]; simp
theorem s_eqLInil {a b : Addr} {l : List Int} (h1 : SqL K H a (l.map V.int)) (h2 : SqL K H b []) (k : Q (.bl l.isEmpty) H) : rEqD K (.ref a) (.ref b) H Q := by
  refine ⟨_, _, .lst h1 (dp_all (fun i => .int i) l), .lst h2 .nil, shaped_ints l, by decide +kernel, ?_⟩
  rw [eqv_nil]
  cases l <;> exact k
theorem s_intB {c : Bool} (k : Q (.int (if c = true then 1 else 0)) H) : rIntI [.bl c] H Q := .inr ⟨c, rfl, k⟩
theorem u_is_wordF {l s : List Nat} (hl : l.length ≤ 10000) (k : ∀ H', Ex [] H H' → Q (.bl (isWord l s)) H') : sp_is_word K ([vS l, vS s] ++ []) H Q E := ⟨_, _, rfl, .inl ⟨l, rfl, hl, k⟩⟩
end
theorem erase_mapG {α β : Type} (f : α → β) : ∀ (l : List α) (i : Nat), (l.map f).eraseIdx i = (l.eraseIdx i).map f
  | [], i => by simp
  | x :: l, 0 => rfl
  | x :: l, i + 1 => by
    show f x :: (l.map f).eraseIdx i = f x :: (l.eraseIdx i).map f
    rw [erase_mapG f l i]
theorem erase_perm {α : Type} : ∀ {l : List α} {i : Nat} (h : i < l.length), (l[i] :: l.eraseIdx i).Perm l
  | x :: l, 0, _ => List.Perm.refl _
  | x :: l, i + 1, h => by
    have h2 : i < l.length := by simpa using h
    show (l[i] :: x :: l.eraseIdx i).Perm (x :: l)
    exact (List.Perm.swap _ _ _).trans (List.Perm.cons x (erase_perm h2))
theorem flat_len1 {s : List Nat} : (srt (s.map fun c => [c])).flatten.length = s.length := by
  rw [(srt_perm (s.map fun c => [c])).flatten.length_eq, flat1]
theorem closes_filter {w : List Nat} {ps : List (List Nat)} : (((List.range w.length).filter fun i => !decide ([prevC w i, w.getD i 0] ∈ ps)).map fun (i : Nat) => (0 : Int) + i).isEmpty = closesB w ps := by
  rw [List.isEmpty_map, Bool.eq_iff_iff, List.isEmpty_iff, List.filter_eq_nil_iff, closes_iff]
  constructor
  · intro h i hi
    have := h i (List.mem_range.mpr hi)
    simpa using this
  · intro h i hi
    have := h i (List.mem_range.mp hi)
    simpa using this
theorem at_here {w : List Nat} {i : Nat} (h : i < w.length) : atI w ((0 : Int) + i) = some (w.getD i 0) := by
  refine atI_of (by omega) ?_
  rw [show ((0 : Int) + (i : Int)).toNat = i by omega, List.getElem?_eq_getElem h, List.getD_eq_getElem?_getD, List.getElem?_eq_getElem h]
  rfl
theorem at_prev {w : List Nat} {i : Nat} (h : i < w.length) : atI w ((0 : Int) + i - 1) = some (prevC w i) := by
  unfold prevC
  rcases Nat.eq_zero_or_pos i with rfl | hp
  · unfold atI ixN
    rw [if_neg (by omega), if_pos (by omega)]
    have e : (0 + (w.length - 1)) % w.length = w.length - 1 := by rw [Nat.zero_add, Nat.mod_eq_of_lt (by omega)]
    rw [e, List.getD_eq_getElem?_getD, List.getElem?_eq_getElem (by omega)]
    show w[((w.length : Int) + (0 + ((0 : Nat) : Int) - 1)).toNat]? = _
    rw [show ((w.length : Int) + (0 + ((0 : Nat) : Int) - 1)).toNat = w.length - 1 by omega, List.getElem?_eq_getElem (by omega)]
    rfl
  · have e : (i + (w.length - 1)) % w.length = i - 1 := by rw [show i + (w.length - 1) = i - 1 + w.length by omega, Nat.add_mod_right, Nat.mod_eq_of_lt (by omega)]
    rw [e]
    refine atI_of (by omega) ?_
    rw [show ((0 : Int) + (i : Int) - 1).toNat = i - 1 by omega, List.getElem?_eq_getElem (by omega), List.getD_eq_getElem?_getD, List.getElem?_eq_getElem (by omega)]
    rfl
end WB
namespace WB
open PySem PySem.Spec PyProof.Rows L2
local macro_rules | `(tactic| walk_at "lit") => `(tactic| first | exact lit_abc | exact lit_empty)
local macro_rules | `(tactic| walk_at "nm") => `(tactic| focus first | exact List.not_mem_nil | (simp only [List.mem_singleton]; first | assumption | (exact Ne.symm (by assumption)) | (intro hz; subst hz; simp_all; done)))
local macro_rules | `(tactic| walk_at "hp") => `(tactic| first | assumption | (apply Ex.get0 (by assumption); walk_at "hp") | (apply Ex.get (by assumption); (walk_at "nm"); (walk_at "hp")))
local macro_rules | `(tactic| walk_at "sq") => `(tactic| first | assumption | (apply SqL.of; walk_at "hp") | (apply Ex.sqL (by assumption); (walk_at "nm"); (walk_at "sq")))
local macro_rules | `(tactic| walk_at "sqt") => `(tactic| first | assumption | (apply SqT.of; walk_at "hp") | (apply Ex.sqT (by assumption); (walk_at "nm"); (walk_at "sqt")))
local macro_rules | `(tactic| walk_at "sz") => `(tactic| focus ((with_reducible refine Nat.le_trans (m := 100000) ?_ (by decide)); first | omega | (simp; done) | (simp; omega)))
local macro_rules | `(tactic| walk_at "mul") => `(tactic| first | exact Or.inr ⟨by omega, by omega⟩ | exact Or.inl ⟨by omega, by omega⟩)
local macro_rules | `(tactic| walk_at "pool") => `(tactic| first | assumption | (apply PoolAt.ex (by assumption); (walk_at "nm"); (walk_at "pool")))
local macro_rules | `(tactic| walk_at "ring") => `(tactic| first | assumption | (apply RingAt.ex (by assumption); (walk_at "nm"); (walk_at "ring")))
local macro_rules | `(tactic| walk_at "st") => `(tactic| first
  | with_reducible refine s_seq ?_
  | with_reducible refine s_asg ?_
  | with_reducible refine s_gName ?_
  | with_reducible refine s_ret ?_
  | with_reducible refine s_ifS ?_
  | with_reducible refine s_next ?_
  | with_reducible refine s_op ?_
  | ((with_reducible apply s_var); exact rfl)
  | ((with_reducible apply s_cS); (walk_at "lit"))
  | with_reducible refine s_c ?_
  | with_reducible refine s_cb ?_
  | with_reducible refine s_cons ?_
  | with_reducible refine s_nil ?_
  | with_reducible refine s_un ?_
  | with_reducible refine s_call ?_
  | with_reducible refine s_test ?_
  | with_reducible refine s_tB ?_
  | with_reducible refine s_blQ ?_
  | with_reducible refine s_not ?_
  | with_reducible refine s_and ?_
  | with_reducible refine s_or ?_
  | with_reducible refine s_andV ?_
  | with_reducible refine s_orV ?_
  | with_reducible refine s_notV ?_
  | with_reducible refine s_ifE ?_
  | with_reducible refine s_chain ?_
  | ((with_reducible refine s_T ?_ ?_); (with_reducible exact rfl))
  | with_reducible refine s_nT ?_
  | with_reducible refine s_nF ?_
  | ((with_reducible refine s_F ?_ ?_); (with_reducible exact rfl))
  | ((with_reducible refine s_T ?_ ?_); assumption)
  | ((with_reducible refine s_F ?_ ?_); assumption)
  | ((with_reducible refine s_nB ?_ ?_); assumption)
  | ((with_reducible refine s_nA ?_ ?_); assumption)
  | ((with_reducible refine s_Td ?_ ?_); omega)
  | ((with_reducible refine s_Fd ?_ ?_); omega)
  | ((with_reducible refine s_nTd ?_ ?_); omega)
  | ((with_reducible refine s_nFd ?_ ?_); omega)
  | with_reducible refine s_sfld ?_
  | with_reducible refine s_addI ?_
  | with_reducible refine s_subI ?_
  | ((with_reducible refine s_mulI ?_ ?_); (walk_at "mul"))
  | ((with_reducible refine s_divI ?_ ?_); exact ⟨by omega, by omega⟩)
  | ((with_reducible refine s_modI ?_ ?_); omega)
  | ((with_reducible refine s_powI ?_ ?_); exact ⟨by decide, by decide, by decide⟩)
  | with_reducible refine s_ltI ?_
  | with_reducible refine s_leI ?_
  | with_reducible refine s_gtI ?_
  | with_reducible refine s_geI ?_
  | with_reducible refine s_negI ?_
  | with_reducible refine s_absI ?_
  | with_reducible refine s_intI ?_
  | with_reducible refine s_min2 ?_
  | with_reducible refine s_max2 ?_
  | with_reducible refine s_eqI ?_
  | with_reducible refine s_neI ?_
  | with_reducible refine s_eqS ?_
  | with_reducible refine s_neS ?_
  | with_reducible refine s_inSg ?_
  | with_reducible refine s_notInSg ?_
  | ((with_reducible refine s_addS ?_ ?_); (walk_at "sz"))
  | ((with_reducible refine s_lenS ?_ ?_); (walk_at "sz"))
  | ((with_reducible apply s_lenL); (walk_at "sq"))
  | ((with_reducible apply s_lenT); (walk_at "sqt"))
  | ((with_reducible apply s_ixL); (walk_at "sq"); exact rfl)
  | ((with_reducible apply s_ixT); (walk_at "sqt"); exact rfl)
  | with_reducible refine s_gSub ?_
  | ((with_reducible apply s_setL); (walk_at "hp"); (exact rfl); (intro _ _ _))
  | ((with_reducible refine s_alloc ?_ ?_); (walk_at "sz"); (intro _ _ _ _ _))
  | ((with_reducible refine s_divmod ?_ ?_); (exact ⟨by omega, PyProof.noPylong_small (by omega)⟩); (intro _ _ _ _ _))
  | ((with_reducible apply s_gTup); (walk_at "sqt"); (exact rfl))
  | ((with_reducible apply s_gLst); (walk_at "sq"); (exact rfl))
  | with_reducible refine s_gCons ?_
  | with_reducible refine s_gNil ?_
  | with_reducible refine s_lc ?_
  | ((with_reducible apply s_cat); (walk_at "hp"); (walk_at "hp"); (walk_at "sz"); (intro _ _ _ _ _))
  | ((with_reducible apply s_slL); (walk_at "sq"); (intro _ _ _ _ _))
  | with_reducible refine s_for ?_
  | with_reducible refine s_rng1 ?_
  | ((with_reducible refine s_rng1i ?_ ?_); (constructor <;> omega))
  | with_reducible refine s_rng2 ?_
  | ((with_reducible refine s_rng2i ?_ ?_); (refine ⟨?_, ?_, ?_, ?_⟩ <;> omega))
  | with_reducible refine s_iStr ?_
  | with_reducible refine s_iStrS ?_
  | with_reducible refine s_iList ?_
  | ((with_reducible apply s_iListA); (walk_at "sq"))
  | with_reducible refine s_iTup ?_
  | ((with_reducible apply s_iTupA); (walk_at "sqt"))
  | with_reducible refine s_sl ?_
  | with_reducible refine s_noPart ?_
  | with_reducible refine s_part ?_
  | with_reducible refine s_int1 ?_
  | ((with_reducible refine s_slS ?_ ?_); (walk_at "sz"))
  | with_reducible refine s_tup ?_
  | with_reducible refine s_lst ?_
  | with_reducible refine s_par ?_
  | with_reducible refine s_pair ?_
  | with_reducible refine s_M1 ?_
  | with_reducible refine s_isStr ?_
  | with_reducible refine s_revS ?_
  | ((with_reducible refine s_revS1 ?_ ?_); (walk_at "sz"))
  | with_reducible refine s_fldE ?_
  | with_reducible refine s_propE ?_
  | ((with_reducible refine u_draw ?_ ?_ ?_ ?_); omega; omega; (walk_at "pool"); (intro _ _ _ _ _ _))
  | ((with_reducible refine u_pool ?_); (intro _ _ _ _ _))
  | with_reducible refine u_is_integer ?_
  | with_reducible refine s_isiII ?_
  | with_reducible refine s_isiIB ?_
  | with_reducible refine s_isiSS ?_
  | ((with_reducible apply u_fldRing); assumption; (walk_at "ring"))
  | ((with_reducible apply u_textP); (walk_at "ring"))
  | ((with_reducible apply u_strRing); (walk_at "ring"))
  | ((with_reducible apply u_eqRing); (walk_at "ring"); (walk_at "ring"))
  | ((with_reducible apply u_isiRing); assumption; (walk_at "ring"))
  | ((with_reducible refine u_is_word ?_ ?_); omega; (intro _ _))
  | ((with_reducible refine u_turnings ?_ ?_); omega; (intro _ _ _ _ _))
  | with_reducible refine s_makeE ?_
  | with_reducible refine s_methE ?_)
local macro_rules | `(tactic| walk_at "go") => `(tactic| repeat (walk_at "st"))
local macro_rules | `(tactic| walk_at "exs") => `(tactic| first | exact Ex.rfl | assumption | (apply Ex.snoc (by assumption); walk_at "exs") | (apply Ex.snocW (by assumption); walk_at "exs"))
local macro_rules | `(tactic| walk_at "kind") => `(tactic| first | assumption | (apply KindAt.ex0 (by assumption); (walk_at "kind")) | (apply KindAt.exP (by assumption) (by assumption); (walk_at "kind")))
local macro_rules | `(tactic| walk_at "st") => `(tactic| first
  | with_reducible refine s_lenSet ?_
  | with_reducible refine s_drop ?_
  | with_reducible refine s_bm ?_
  | with_reducible refine s_notN ?_
  | with_reducible refine s_isN ?_
  | ((with_reducible apply s_tyL); (walk_at "hp"))
  | with_reducible refine s_enumT ?_
  | ((with_reducible apply s_enumTA); (walk_at "sqt"))
  | with_reducible refine s_lc2 ?_)
/-- check_signs: 0 signs -/
def t_check_signs (K : PySem.W.Frag) : TS :=
  (tIfS (tOr (tNot (tB (tCall (sp_is_word K) [(vS LET)] E0 (tCons (tVar 0) tNil)))) (tOr (tTest (tOp rGtI (tCB (rLenV K) (tCons (tVar 0) tNil)) (tC (.int 4)))) (tTest (tOp rLtI (tLenSetS K (tVar 0)) (tCB (rLenV K) (tCons (tVar 0) tNil)))))) tNever tNext)
/-- check_pairs: 0 signs 1 pairs 2 index 3 pair -/
def t_check_pairs (K : PySem.W.Frag) : TS :=
  (tSeq (tIfS (tNot (tB (tCB (rIsi K) (tCons (tVar 1) (tCons (tC (.ty "tuple")) tNil))))) tNever tNext)
  (tFor (iEnumT K (tCons (tVar 1) tNil)) (gTup K 2 (gCons (gName 2) (gCons (gName 3) gNil))) (tIfS (tOr (tNot (tB (tCall (sp_is_word K) [] E0 (tCons (tVar 3) (tCons (tVar 0) tNil))))) (tOr (tTest (tOp rNe (tCB (rLenV K) (tCons (tVar 3) tNil)) (tC (.int 2)))) (tTest (tOp (rIn K false) (tVar 3) (tSl (rSlA K) (tVar 1) tNoPart (tPart (tVar 2))))))) tNever tNext)))
/-- Kind.__init__: 0 self 1 signs 2 pairs 3 one 4 other -/
def t_Kind_init (K : PySem.W.Frag) : TS :=
  (tSeq (tDrop (tCall (sp_check_signs K) [] E0 (tCons (tVar 1) tNil)))
  (tSeq (tIfS (tTest (tOp rNotN1 (tVar 2) (tC .non))) (tDrop (tCall (sp_check_pairs K) [] E0 (tCons (tVar 1) (tCons (tVar 2) tNil)))) tNext)
  (tSeq (sFld K (tVar 0) (tM1 (rJoin K) (tC (.str "")) (tCB (rSrt K) (tCons (tVar 1) tNil))) "letters")
  (tSeq (tIfS (tTest (tOp rIsN1 (tVar 2) (tC .non))) (tAsg (tLc2 (iStr (tVar 1)) (gName 3) tYes (iStr (tVar 1)) (gName 4) tYes (tOp rAddS (tVar 3) (tVar 4)) [3, 4] [4]) (gName 2)) tNext)
  (sFld K (tVar 0) (tCB (rTupOf K) (tCons (tCB (rSrt K) (tCons (tVar 2) tNil)) tNil)) "allowed")))))
/-- Kind.closes: 0 self 1 text 2 at -/
def t_Kind_closes (K : PySem.W.Frag) : TS :=
  (tRet (tOp (rEqD K) (tLc (iRng1 (tCons (tCB (rLenV K) (tCons (tVar 1) tNil)) tNil)) (gName 2) (tTest (tOp (rIn K true) (tOp rAddS (tOp rIxS (tVar 1) (tOp rSubI (tVar 2) (tC (.int 1)))) (tOp rIxS (tVar 1) (tVar 2))) (tFld K (tVar 0) "allowed"))) (tVar 2) [2]) (tLst tNil)))
/-- Kind.__contains__: 0 self 1 value -/
def t_Kind_contains (K : PySem.W.Frag) : TS :=
  (tRet (tAndV (tCB (rIsi K) (tCons (tVar 1) (tCons (tC (.ref (He.ga K "Ring"))) tNil))) (tMeth (He.ga K "Kind") "closes" (sp_Kind_closes K) [] E0 (tVar 0) (tCons (tProp (He.ga K "Ring") (sp_Ring_text K) [] E0 (tVar 1)) tNil))))
/-- _law_shuffled: 0 _law_pool_here 1 _law_things 2 _law_rest 3 _law_found 4 _law_turn -/
def t_law_shuffled (K : PySem.W.Frag) : TS :=
  (tSeq (tPar 2 3 (tCons (tCB (rListOf K) (tCons (tVar 1) tNil)) (tCons (tLst tNil) tNil)))
  (tSeq (tFor (iRng1 (tCons (tCB (rLenV K) (tCons (tVar 1) tNil)) tNil)) (gName 4) (tDrop (tBM K "list" rAppend (tVar 3) (tCons (tBM K "list" rPopAt (tVar 2) (tCons (tCall (sp_law_draw K) [] E0 (tCons (tVar 0) (tCons (tCB (rLenV K) (tCons (tVar 2) tNil)) tNil))) tNil)) tNil))))
  (tRet (tVar 3))))
/-- _law_every: 0 _law_abc 1 _law_found 2 _law_near 3 _law_far -/
def t_law_every (K : PySem.W.Frag) : TS :=
  (tSeq (tAsg (tLst tNil) (gName 1))
  (tSeq (tFor (iStr (tVar 0)) (gName 2) (tAsg (tOp rCat (tVar 1) (tLc (iStr (tVar 0)) (gName 3) tYes (tOp rAddS (tVar 2) (tVar 3)) [3])) (gName 1)))
  (tRet (tVar 1))))
/-- _law_couples: 0 _law_pool_here 1 _law_abc 2 _law_every_here 3 _law_way 4 _law_some 5 _law_mate -/
def t_law_couples (K : PySem.W.Frag) : TS :=
  (tSeq (tAsg (tTup (tCons (tCall (sp_law_every K) [] E0 (tCons (tVar 1) tNil)) (tCons (tCall (sp_law_draw K) [] E0 (tCons (tVar 0) (tCons (tC (.int 8)) tNil))) tNil))) (gTup K 2 (gCons (gName 2) (gCons (gName 3) gNil))))
  (tSeq (tIfS (tTest (tOp rLtI (tVar 3) (tC (.int 2)))) (tRet (tOp (rIxL K) (tLst (tCons (tVar 2) (tCons (tLst tNil) tNil))) (tVar 3))) tNext)
  (tSeq (tAsg (tLc (iList K (tVar 2)) (gName 5) (tTest (tOp rLtI (tCall (sp_law_draw K) [] E0 (tCons (tVar 0) (tCons (tC (.int 4)) tNil))) (tOp (rIxL K) (tLst (tCons (tC (.int 2)) (tCons (tC (.int 3)) tNil))) (tCB rIntI (tCons (tOp rLtI (tVar 3) (tC (.int 5))) tNil))))) (tVar 5) [5]) (gName 4))
  (tRet (tCall (sp_law_shuffled K) [] E0 (tCons (tVar 0) (tCons (tVar 4) tNil)))))))
section
variable {K : PySem.W.Frag} {vs : List V} {H : Hp} {Q : VK} {E : XK}
theorem pure_check_signs (h : sp_check_signs K vs H Q E) : t_check_signs K (E1 Q) (start ["signs"] vs) H := by
  obtain ⟨s, rfl, ⟨hw, h4, hn⟩, k⟩ := h
  have hl := isWord_len hw
  show t_check_signs K (E1 Q) [some (vS s)] H
  unfold t_check_signs
  walk_at "go"
  rename_i H1 e1
  refine s_setNS (by omega) ?_
  have en : ndc s.reverse = s.length := by rw [← List.length_reverse]; exact (ndc_full _).mpr ((List.reverse_perm s).nodup_iff.mpr hn)
  rw [en]
  walk_at "go"
  exact k _ e1
theorem pure_check_pairs (h : sp_check_pairs K vs H Q E) : t_check_pairs K (E1 Q) (start ["signs", "pairs", "index", "pair"] vs) H := by
  obtain ⟨s, t, ps, rfl, ht, ⟨hn, hg⟩, h64, k⟩ := h
  show t_check_pairs K (E1 Q) [some (vS s), some (.ref t), none, none] H
  unfold t_check_pairs
  walk_at "go"
  refine s_isiK (Kd.tup ht) (b := true) (by decide +kernel) ?_
  walk_at "go"
  refine for_run walk_enumT (fun i σ H1 => ∃ x2 x3, σ = [some (vS s), some (.ref t), x2, x3] ∧ Ex [] H H1) ⟨_, _, rfl, Ex.rfl⟩ (fun i σ H1 _ ⟨_, _, _, e⟩ => e.sqT (by simp) ht) ?_ ?_
  · rintro i x σ H1 H2 hi ⟨x2, x3, rfl, e1⟩ ⟨T, y, z, rfl, hT, rfl, hy, hz⟩
    rw [List.length_map] at hi
    have hz : (ps.map vS)[i]? = some z := hz
    rw [List.getElem?_map, List.getElem?_eq_getElem hi] at hz
    cases hz
    cases hy
    have hm : ps[i] ∈ ps := List.getElem_mem hi
    have hp := hg _ hm
    have e2 : Ex [] H1 (upd H1 T (.tup [.int (i : Nat), vS ps[i]])) := Ex.new hT
    have h2 : (upd H1 T (.tup [.int (i : Nat), vS ps[i]])) T = some (.tup [.int (i : Nat), vS ps[i]]) := upd_same
    revert e2 h2
    generalize upd H1 T (.tup [.int (i : Nat), vS ps[i]]) = H3
    intro e2 h2
    have hw : isWord ps[i] s = true := isWord_mk (by omega) (by omega) hp.2
    walk_at "go"
    refine u_is_wordF (by omega) fun H4 e4 => ?_
    rw [hw]
    walk_at "go"
    refine s_slA (xs := ps.map vS) (by walk_at "sqt") fun q H5 e5 hs5 => ?_
    walk_at "go"
    have hc : cutV (ps.map vS) none (some (i : Int)) = (ps.take i).map vS := by rw [cutV_to (by omega)]; simp [List.map_take]
    rw [hc] at hs5
    refine s_inT hs5 ?_
    have hni : ps[i] ∉ ps.take i := by
      intro z
      obtain ⟨j, hj, e⟩ := List.mem_take_iff_getElem.mp z
      exact absurd (List.getElem_inj hn |>.mp e) (by omega)
    rw [decide_eq_false hni]
    walk_at "go"
    exact ⟨_, _, rfl, (((e1.trans e2).trans e4).trans e5)⟩
  · rintro σ H1 ⟨x2, x3, rfl, e1⟩
    exact k _ e1
theorem pure_law_every (h : sp_law_every K vs H Q E) : t_law_every K (E1 Q) (start ["_law_abc", "_law_found", "_law_near", "_law_far"] vs) H := by
  obtain ⟨s, rfl, hl, k⟩ := h
  show t_law_every K (E1 Q) [some (vS s), none, none, none] H
  unfold t_law_every
  walk_at "go"
  rename_i p1 H1 n1 e1 h1
  have w := walk_str (z := S s)
  have hs : (S s).cps.size = s.length := by simp [S]
  rw [hs] at w
  refine for_run w (fun i σ H2 => ∃ x2 p, σ = [some (vS s), some (.ref p), x2, none] ∧ H p = none ∧ Ex [] H H2 ∧ H2 p = some (.lst (((s.take i).flatMap fun a => s.map fun b => [a, b]).map vS))) ⟨_, p1, rfl, n1, e1, by simpa using h1⟩ (fun _ _ _ _ _ => trivial) ?_ ?_
  · rintro i x σ H2 H3 hi ⟨x2, p, rfl, hp, e2, h2⟩ ⟨rfl, c, hc, ev⟩
    have ev : x = vS [c] := ev
    subst ev
    have hc : s[i]? = some c := by simpa [S] using hc
    walk_at "go"
    refine lc_mapS (by omega) (fun _ => true) (fun d => vS [c, d]) (fun d H4 C1 C0 hd e4 k1 k0 => ?_) (fun D H4 hD e4 hd => ?_)
    · refine s_yes ?_
      walk_at "go"
      exact k1 _ Ex.rfl rfl
    walk_at "go"
    have hd2 : H4 D = some (.lst (s.map fun d => vS [c, d])) := by rw [hd, show s.filter (fun _ => true) = s from List.filter_eq_self.mpr fun _ _ => rfl]
    have hlen : (((s.take i).flatMap fun a => s.map fun b => [a, b]).map vS).length ≤ 676 := by
      rw [List.length_map, List.length_flatMap]
      simp only [List.length_map]
      have : ∀ (l : List Nat) (n : Nat), (l.map fun _ => n).sum = l.length * n := by
        intro l n
        induction l with
        | nil => simp
        | cons x r ih => rw [List.map_cons, List.sum_cons, ih, List.length_cons, Nat.succ_mul, Nat.add_comm]
      rw [this, List.length_take]
      exact Nat.mul_le_mul (show _ ≤ 26 by omega) hl
    refine s_cat (e4.get0 h2) hd2 (Nat.le_trans (m := 100000) (by have : (s.map fun d => vS [c, d]).length = s.length := List.length_map ..; omega) (by decide)) fun q H5 nq e5 h5 => ?_
    walk_at "go"
    refine ⟨_, q, rfl, (e2.trans e4).free nq, (e2.trans e4).trans e5, ?_⟩
    rw [h5, List.take_add_one, hc]
    simp
  · rintro σ H2 ⟨x2, p, rfl, hp, e2, h2⟩
    walk_at "go"
    rw [List.take_length] at h2
    exact k p _ hp e2 h2
theorem pure_law_shuffled (h : sp_law_shuffled K vs H Q E) : t_law_shuffled K (E1 Q) (start ["_law_pool_here", "_law_things", "_law_rest", "_law_found", "_law_turn"] vs) H := by
  obtain ⟨a, t, l, rfl, ht, nta, hl, hp, k⟩ := h
  show t_law_shuffled K (E1 Q) [some (.ref a), some (.ref t), none, none, none] H
  unfold t_law_shuffled
  walk_at "go"
  refine s_listOfL ht fun p1 H1 n1 e1 h1 => ?_
  walk_at "go"
  rename_i p2 H2 n2 e2 h2
  have ne12 : p2 ≠ p1 := fun z => by rw [z, h1] at n2; cases n2
  have ne1a : p1 ≠ a := fun z => hp.there (z ▸ n1)
  have ne2a : p2 ≠ a := fun z => (show PoolAt H1 a by walk_at "pool").there (z ▸ n2)
  have n20 : H p2 = none := e1.free n2
  rw [List.length_map]
  walk_at "go"
  refine for_rng (fun i σ H' => ∃ (r f : List (List Nat)) (x4 : Option V), σ = [some (.ref a), some (.ref t), some (.ref p1), some (.ref p2), x4] ∧ r.length + i = l.length ∧ (f ++ r).Perm l ∧ H' p1 = some (.lst (r.map vS)) ∧ H' p2 = some (.lst (f.map vS)) ∧ Ex [a] H H' ∧ PoolAt H' a)
    ⟨l, [], _, rfl, rfl, List.Perm.refl _, by walk_at "hp", h2, by walk_at "exs", by walk_at "pool"⟩ ?_ ?_
  · rintro i _ H3 hi ⟨r, f, x4, rfl, hr, hf, h31, h32, e3, p3⟩
    have hi : i < l.length := by omega
    have hfl : f.length ≤ 600 := by have := hf.length_eq; rw [List.length_append] at this; omega
    walk_at "go"
    have hlen : (r.map vS).length = r.length := List.length_map ..
    rw [hlen]
    refine u_draw (by omega) (by omega) p3 fun d H4 d0 d1 e4 p4 => ?_
    walk_at "go"
    have hdl : d.toNat < r.length := by omega
    have h41 : H4 p1 = some (.lst (r.map vS)) := by walk_at "hp"
    have h42 : H4 p2 = some (.lst (f.map vS)) := by walk_at "hp"
    refine s_popAt (i := d.toNat) (y := vS r[d.toNat]) h41 (by omega) (by omega) (by rw [List.getElem?_map, List.getElem?_eq_getElem hdl]; rfl) fun H5 e5 h51 => ?_
    walk_at "go"
    refine s_append (xs := f.map vS) (by walk_at "hp") (by rw [List.length_map]; exact Nat.lt_of_le_of_lt hfl (by decide)) fun H6 e6 h62 => ?_
    walk_at "go"
    refine ⟨r.eraseIdx d.toNat, f ++ [r[d.toNat]], _, rfl, ?_, ?_, ?_, ?_, ?_, ?_⟩
    · rw [List.length_eraseIdx, if_pos hdl]; omega
    · rw [List.append_assoc]
      exact (List.Perm.append_left f (erase_perm hdl)).trans hf
    · rw [← erase_mapG]
      walk_at "hp"
    · rw [List.map_append]; exact h62
    · exact Ex.dropM n20 (Ex.dropM n1 (e3.trans e4) e5) e6
    · have p5 : PoolAt H5 a := PoolAt.ex e5 (by simpa using Ne.symm ne1a) p4
      exact PoolAt.ex e6 (by simpa using Ne.symm ne2a) p5
  · rintro _ H3 ⟨r, f, x4, rfl, hr, hf, h31, h32, e3, p3⟩
    walk_at "go"
    have : r = [] := List.length_eq_zero_iff.mp (by omega)
    subst this
    rw [List.append_nil] at hf
    exact k f p2 H3 hf n20 e3 p3 h32
theorem pure_law_couples (h : sp_law_couples K vs H Q E) : t_law_couples K (E1 Q) (start ["_law_pool_here", "_law_abc", "_law_every_here", "_law_way", "_law_some", "_law_mate"] vs) H := by
  obtain ⟨a, s, rfl, hs, hp, k⟩ := h
  have hpl := prs_len s
  have h16 : (prs s).length ≤ 16 := by rw [hpl]; exact Nat.mul_le_mul hs.2.1 hs.2.1
  have hgp := goodP_prs hs.2.2
  show t_law_couples K (E1 Q) [some (.ref a), some (vS s), none, none, none, none] H
  unfold t_law_couples
  walk_at "go"
  refine u_every (by have := hs.2.1; omega) fun p1 H1 n1 e1 h1 => ?_
  have ne1 : p1 ≠ a := fun z => hp.there (z ▸ n1)
  have pp1 : PoolAt H1 a := by walk_at "pool"
  walk_at "go"
  rename_i w H2 w0 w1 e2 pp2 q H3 nq e3 h3
  have pp3 : PoolAt H3 a := by walk_at "pool"
  have h13 : H3 p1 = some (.lst ((prs s).map vS)) := by walk_at "hp"
  have ea : Ex [a] H H3 := by walk_at "exs"
  clear e1 h1 pp1 e2 pp2 e3 h3 nq
  refine s_2 (fun hb => ?_) (fun hb => ?_)
  · have hb := of_decide_eq_true hb
    walk_at "go"
    rename_i q1 H4 nq1 e4 h4 q2 H5 nq2 e5 h5
    have pp5 : PoolAt H5 a := by walk_at "pool"
    have e05 : Ex [a] H H5 := by walk_at "exs"
    rcases (show w = 0 ∨ w = 1 by omega) with rfl | rfl
    · exact s_ixL (SqL.of h5) rfl (k _ _ _ hgp h16 n1 e05 pp5 (by walk_at "hp"))
    · refine s_ixL (SqL.of h5) rfl (k [] q1 _ (goodP_sub hgp (List.nil_sublist _)) (by simp) ?_ e05 pp5 (e5.get0 h4))
      cases z : H q1 with
      | none => rfl
      | some o =>
        have := ea q1 o (by simp only [List.mem_singleton]; intro y; rw [y] at nq1; exact pp3.there nq1) z
        rw [this] at nq1
        cases nq1
  walk_at "go"
  refine lc_subL h13 ne1 (by simp) (by omega) pp3 (fun x H4 R hx e4 pp4 kk => ?_) (fun D H4 ms hD e4 pp4 hms h4 => ?_)
  · walk_at "go"
    rename_i d H5 d0 d1 e5 pp5 q5 H6 n6 e6 h6
    have hix : ∃ v : Int, atI [V.int 2, V.int 3] (if decide (w < 5) = true then 1 else 0) = some (.int v) := by
      cases decide (w < 5)
      · exact ⟨2, rfl⟩
      · exact ⟨3, rfl⟩
    obtain ⟨v, hv⟩ := hix
    refine s_intB ?_
    refine s_ixL (SqL.of h6) hv ?_
    walk_at "go"
    exact kk _ _ (by walk_at "exs") (by walk_at "pool")
  walk_at "go"
  have hDa : D ≠ a := fun z => pp3.there (z ▸ hD)
  have hml := hms.length_le
  refine u_shuffled (SqL.of h4) hDa (by omega) pp4 fun ns p H5 hn np e5 pp5 h5 => ?_
  refine k ns p H5 (goodP_perm (goodP_sub hgp hms) hn) (by have := hn.length_eq; omega) ?_ ((ea.trans e4).trans e5) pp5 h5
  cases z : H p with
  | none => rfl
  | some o =>
    have := (ea.trans e4) p o (by simp only [List.mem_singleton]; intro y; rw [y] at np; exact pp4.there np) z
    rw [this] at np
    cases np
variable (FR : RingK K) (F : KindK K)
include F
theorem pure_Kind_init (h : sp_Kind_init K vs H Q E) : t_Kind_init K (E1 Q) (start ["self", "signs", "pairs", "one", "other"] vs) H := by
  obtain ⟨x, dx, s, v, rfl, hs, hx, ps, hp, k⟩ := h
  have h4 := hs.2.1
  show t_Kind_init K (E1 Q) [some (.ref x), some (vS s), some v, none, none] H
  unfold t_Kind_init
  walk_at "go"
  refine u_check_signs hs fun H1 e1 => ?_
  walk_at "go"
  have fin : ∀ (H5 : Hp) (q : Addr), Ex [x] H H5 → H5 x = some (.ins (He.ga K "Kind") dx [("letters", vS (sgn s))]) → H5 q = some (.tup ((srt ps).map vS)) → SetG K "allowed" (.ref q) (.ref x) H5 (fun H' => Q .non H') := by
    intro H5 q e5 h5 hq
    refine ⟨x, _, dx, _, rfl, h5, F.cl, F.na2, by simp, ?_⟩
    have hqx : q ≠ x := fun z => by rw [z, h5] at hq; cases hq
    refine k _ (e5.trans (Ex.put (by simp))) ⟨dx, q, ?_, SqT.of (by rw [upd_ne hqx]; exact hq)⟩
    rw [upd_same]
    rfl
  rcases hp with ⟨rfl, rfl⟩ | ⟨t, rfl, ht, hg, h64⟩
  · refine s_F (by simp) ?_
    walk_at "go"
    refine s_srtS (by omega) fun p2 H2 n2 e2 h2 => ?_
    walk_at "go"
    refine s_join0 (ls := srt (s.map fun c => [c])) (SqL.of h2) (by rw [flat_len1]; omega) ?_
    walk_at "go"
    refine ⟨x, _, dx, _, rfl, by walk_at "hp", F.cl, F.na1, by simp, ?_⟩
    have e3 : Ex [x] H2 (upd H2 x (.ins (He.ga K "Kind") dx (putF "letters" (vS (sgn s)) []))) := Ex.put (by simp)
    have h3 : (upd H2 x (.ins (He.ga K "Kind") dx (putF "letters" (vS (sgn s)) []))) x = some (.ins (He.ga K "Kind") dx [("letters", vS (sgn s))]) := by rw [upd_same]; rfl
    show (tSeq _ _) _ _ (upd H2 x (.ins (He.ga K "Kind") dx (putF "letters" (vS (sgn s)) [])))
    revert e3 h3
    generalize upd H2 x (.ins (He.ga K "Kind") dx (putF "letters" (vS (sgn s)) [])) = H3
    intro e3 h3
    walk_at "go"
    refine s_T (by simp) ?_
    walk_at "go"
    refine lc2_SS (l := s) (m := s) (by decide) (fun c => rfl) (by omega) (by omega) (fun c d => vS [c, d]) (fun c d H4 C hc hd e4 kk => ?_) fun D H4 hD e4 hd => ?_
    · walk_at "go"
      exact kk _ Ex.rfl
    walk_at "go"
    have hv : vals2 (fun c d => vS [c, d]) s s = (prs s).map vS := by
      unfold vals2 prs
      rw [List.map_flatMap]
      congr 1
      funext c
      rw [List.map_map]
      rfl
    rw [hv] at hd
    refine s_srtL (SqL.of hd) (by rw [prs_len]; have := Nat.mul_le_mul h4 h4; omega) fun p5 H5 n5 e5 h5 => ?_
    walk_at "go"
    refine s_tupOf (SqL.of h5) fun q H6 n6 e6 h6 => ?_
    walk_at "go"
    have h6x : H6 x = some (.ins (He.ga K "Kind") dx [("letters", vS (sgn s))]) := by walk_at "hp"
    have eH6 : Ex [x] H H6 := by walk_at "exs"
    exact fin H6 q eH6 h6x h6
  · refine s_T (by simp) ?_
    walk_at "go"
    refine u_check_pairs (e1.sqT (by simp) ht) hg h64 fun H2 e2 => ?_
    walk_at "go"
    refine s_srtS (by omega) fun p3 H3 n3 e3 h3 => ?_
    walk_at "go"
    refine s_join0 (ls := srt (s.map fun c => [c])) (SqL.of h3) (by rw [flat_len1]; omega) ?_
    walk_at "go"
    refine ⟨x, _, dx, _, rfl, by walk_at "hp", F.cl, F.na1, by simp, ?_⟩
    have e4 : Ex [x] H3 (upd H3 x (.ins (He.ga K "Kind") dx (putF "letters" (vS (sgn s)) []))) := Ex.put (by simp)
    have h4 : (upd H3 x (.ins (He.ga K "Kind") dx (putF "letters" (vS (sgn s)) []))) x = some (.ins (He.ga K "Kind") dx [("letters", vS (sgn s))]) := by rw [upd_same]; rfl
    have ht4 : SqT K (upd H3 x (.ins (He.ga K "Kind") dx (putF "letters" (vS (sgn s)) []))) t (ps.map vS) := by
      have h0 : SqT K H3 t (ps.map vS) := by walk_at "sqt"
      have hx3 : H3 x = some (.ins (He.ga K "Kind") dx []) := by walk_at "hp"
      rcases h0 with (h | ⟨o, h⟩) | h
      · exact e4.sqT (by simp only [List.mem_singleton]; intro w; rw [w, hx3] at h; cases h) (.inl (.inl h))
      · exact e4.sqT (by simp only [List.mem_singleton]; intro w; rw [w, hx3] at h; cases h) (.inl (.inr ⟨o, h⟩))
      · exact .inr h
    show (tSeq _ _) _ _ (upd H3 x (.ins (He.ga K "Kind") dx (putF "letters" (vS (sgn s)) [])))
    revert e4 h4 ht4
    generalize upd H3 x (.ins (He.ga K "Kind") dx (putF "letters" (vS (sgn s)) [])) = H4
    intro e4 h4 ht4
    walk_at "go"
    refine s_F (by simp) ?_
    walk_at "go"
    refine s_srtT ht4 h64 fun p5 H5 n5 e5 h5 => ?_
    walk_at "go"
    refine s_tupOf (SqL.of h5) fun q H6 n6 e6 h6 => ?_
    walk_at "go"
    have h6x : H6 x = some (.ins (He.ga K "Kind") dx [("letters", vS (sgn s))]) := by walk_at "hp"
    have eH6 : Ex [x] H H6 := by walk_at "exs"
    exact fin H6 q eH6 h6x h6
theorem pure_Kind_closes (h : sp_Kind_closes K vs H Q E) : t_Kind_closes K (E1 Q) (start ["self", "text", "at"] vs) H := by
  obtain ⟨a, w, rfl, l, ps, hk, hw, k⟩ := h
  show t_Kind_closes K (E1 Q) [some (.ref a), some (vS w), none] H
  unfold t_Kind_closes
  walk_at "go"
  refine lc_fmR (by omega) (fun i => !decide ([prevC w i, w.getD i 0] ∈ ps)) (fun i => .int ((0 : Int) + i)) (fun i H1 C1 C0 hi e1 k1 k0 => ?_) (fun D H1 hD e1 hd => ?_)
  · have hi : i < w.length := by omega
    walk_at "go"
    refine s_ixS (c := prevC w i) (by walk_at "sz") (at_prev hi) ?_
    walk_at "go"
    refine s_ixS (c := w.getD i 0) (by walk_at "sz") (at_here hi) ?_
    walk_at "go"
    refine u_fldAllowed F (l := l) (ps := ps) (by walk_at "kind") fun t ht => ?_
    walk_at "go"
    refine s_notInT ht ?_
    walk_at "go"
    refine s_2 (fun hb => ?_) (fun hb => ?_)
    · walk_at "go"
      exact k1 _ Ex.rfl hb
    · exact k0 _ Ex.rfl hb
  walk_at "go"
  rename_i p2 H2 n2 e2 h2
  refine s_eqLInil (l := ((List.range w.length).filter fun i => !decide ([prevC w i, w.getD i 0] ∈ ps)).map fun (i : Nat) => (0 : Int) + i) (by rw [List.map_map]; exact SqL.of (e2.get0 hd)) (SqL.of h2) ?_
  rw [closes_filter]
  exact k _ (e1.trans e2)
include FR
theorem pure_Kind_contains (h : sp_Kind_contains K vs H Q E) : t_Kind_contains K (E1 Q) (start ["self", "value"] vs) H := by
  obtain ⟨a, v, rfl, l, ps, hk, h⟩ := h
  show t_Kind_contains K (E1 Q) [some (.ref a), some v] H
  unfold t_Kind_contains
  walk_at "go"
  rcases h with ⟨b, w, rfl, hr, hw, k⟩ | ⟨hn | ⟨b, l', ps', rfl, hb⟩, k⟩
  · walk_at "go"
    refine u_methKind hk (by decide +kernel) (by decide +kernel) ?_
    walk_at "go"
    exact ⟨_, _, rfl, l, ps, hk, hw, k⟩
  · obtain ⟨n, hn⟩ := hn
    refine u_isiNR FR hn ?_
    walk_at "go"
    exact k
  · refine u_isiKR F hb ?_
    walk_at "go"
    exact k
end
end WB
/-! dict comprehensions whose keys are tuples of texts and ints -/
namespace WB
open PySem PySem.Spec PyProof.Rows L2
section
variable {X : Cx}
/-- a key that is a tuple is put into a dict of such -/
theorem dsetT {pins : List (Addr × Obj)} {σ : L2.St} {H : Hp} {s : Shared} {E : Value → Shared → Prop} {D b : Addr} {kvs : List (List Key × V)} {k : List Key} {v : V} {r : Value} {Q : Unit → Shared → Prop} (hu : X.A.units + 1 < cLine) (J : Inv X pins σ H s) (hD : H D = some (.dT kvs)) (hb : H b = some (.tup (k.map kV))) (hz : kvs.length < sizeLine)
    (rv : RelV v r) (q : ∀ s', Inv X pins σ (upd H D (.dT (putK kvs k v))) s' → Q () s') : wpAny (model X.prog X.w) X.A (dictSet D (.ref b) r) Q E s := by
  obtain ⟨z, y, xs, rel, dd⟩ := dt_of J.hok hD
  have hl : (putK kvs k v).length ≤ sizeLine := by have := length_putK kvs k v; omega
  refine wpAny_dictSet_heap (hsz := by rw [← Paired.length rel]; exact z) (show X.A.units < cLine by omega) (key_of J.hok hb) dd fun h' d2 sb => q _ ?_
  obtain ⟨o, es, ep, g1, g2, g3, g4, _, g5⟩ := d2
  refine d_write J (by rw [hD]; exact True.intro) sb ⟨o, g1⟩ ⟨hl, y, _, (rel.put k hb rv).keeps fun c ys ec => ?_, o, es, ep, g1, g2, g3, g4, g5⟩
  rw [upd_ne (ne_of ec hD (fun z => nomatch z))]
  exact ec
/-- {k: v for target in iter if ..}, the keys tuples: D the new dict -/
def tDcT (wi : TI) (g : TG) (tt : TT) (tk tv : TE) (vs : List Nat) : TE := fun σ H Q => wi σ H fun J H1 => ∀ D, H1 D = none → ∃ W : Nat → Nat → Hp → Prop, (∃ m, W 0 m (upd H1 D (.dT []))) ∧ ∀ i m H, W i m H →
  (J.stop i H ∧ Q (.ref D) H) ∨ (J.go i H ∧ ∃ Nx : Hp → Prop, (∀ H', Nx H' → ∃ m', m' < m ∧ W (i + 1) m' H') ∧ ∀ x H', J.yld i H x H' → g x (wipe σ vs) H' fun σ2 H2 => wipe σ2 vs = wipe σ vs ∧ tt σ2 H2 fun c H3 =>
    if c = true then tk σ2 H3 fun y H4 => tv σ2 H4 fun z H5 => ∃ kvs k b, y = .ref b ∧ H5 b = some (.tup (k.map kV)) ∧ H5 D = some (.dT kvs) ∧ kvs.length < sizeLine ∧ Nx (upd H5 D (.dT (putK kvs k z))) else Nx H3)
theorem pe_dcT {kx vx tg iter : Expr} {ifs : List Expr} {scope : Scope} {own : List (Str × Nat)} {pos : Pos} {wi : TI} {g : TG} {tt : TT} {tk tv : TE} (hc : X.calm = true) (hu : X.A.units + 1 < cLine) (hN : X.N.Nodup) (hi : PI X tg iter wi) (ok : BlkOk X.N X.env.scope scope own)
    (hg : ∀ (r : Shared) (G : Hp) (C : Addr) (cl : List (Str × Addr)) (fp : List Addr), PG (X.blk r G scope (compEnvC scope cl C X.env) fp) tg g) (ht : ∀ (r : Shared) (G : Hp) (C : Addr) (cl : List (Str × Addr)) (fp : List Addr), PTs (X.blk r G scope (compEnvC scope cl C X.env) fp) ifs tt)
    (hk : ∀ (r : Shared) (G : Hp) (C : Addr) (cl : List (Str × Addr)) (fp : List Addr), PE (X.blk r G scope (compEnvC scope cl C X.env) fp) kx tk) (hv : ∀ (r : Shared) (G : Hp) (C : Addr) (cl : List (Str × Addr)) (fp : List Addr), PE (X.blk r G scope (compEnvC scope cl C X.env) fp) vx tv)
    (hfs : ∀ x, foldedSetIterable iter X.env x = pure x := by intro _; rfl) : PE X (.DictComp kx vx [⟨tg, iter, ifs, 0⟩] scope pos) (tDcT wi g tt tk tv (own.map (·.2))) := by
  refine ⟨fun pins s σ H Q I0 h => ?_⟩
  rw [arm_eval_DictComp]
  have free : ∀ y ∈ scope.names, y.2 = .free → ∃ c, X.env.cells.lookup y.1 = some c := fun y hy e => (ok.free y hy e).elim (fun k => I0.ok.has _ (.inl k)) fun k => I0.ok.has _ (.inr k)
  refine wpAny_comprehension_free rfl hfs (closure_ok free) ok.kind (fun y hy e => by rw [ok.uniq y hy, e]) (thn (hi.run pins s σ H _ I0 h) fun _ r1 hx => thn hx fun _ r2 h2 => ?_)
  obtain ⟨it, fp, tn, J, G2, rfl, I2, T, t2, f2, q⟩ := h2
  refine wpAny_newObj_type (newEnv_comp ?_)
  obtain ⟨W, ⟨m0, w0⟩, turn⟩ := q r2.heap.objs.size (I2.hok.fresh (Nat.le_refl _))
  generalize er3 : ({ r2 with heap := r2.heap.push { cls := .type "dict", data := .dict #[] } } : Shared) = r3
  have I3 : Inv X pins σ (upd G2 r2.heap.objs.size (.dT [])) r3 := by
    subst er3
    exact I2.laid (t' := r2.toks) (fun b o e => Heap.get?_push_of_some _ e) (Nat.le_refl _) (dt_empty r2.heap I2.big)
  have up3 : ∀ b o, r2.heap.get? b = some o → r3.heap.get? b = some o := fun b o e => by subst er3; exact Heap.get?_push_of_some _ e
  have lt2 : ∀ b ∈ fp, b < r2.heap.objs.size := fun b hb => let ⟨_, e, _⟩ := T.obj _ _ t2 b hb; Heap.lt_size e
  have f3 : ∀ b ∈ fp, FpOk X pins (upd G2 r2.heap.objs.size (.dT [])) b ∧ b < r3.heap.objs.size := fun b hb =>
    ⟨⟨by rw [upd_ne (Nat.ne_of_lt (lt2 b hb))]; exact (f2 b hb).1, (f2 b hb).2⟩, let ⟨_, e, _⟩ := T.obj _ _ t2 b hb; Heap.lt_size (up3 b _ e)⟩
  have B4 := block_start I3 ok hN f3
  have n3 : ∀ b ∈ fp, (upd G2 r2.heap.objs.size (.dT [])) b = none := fun b hb => (f3 b hb).1.1
  have t3 : tn 0 r3.heap := T.keep _ _ _ t2 fun b _ o e => up3 b o e
  generalize r2.heap.objs.size = D at *
  generalize upd G2 D (.dT []) = G3 at *
  have p1 := hg r3 G3 r3.heap.objs.size (cellsFrom (r3.heap.objs.size + 1) scope.names (cloFrom X.env.cells scope.names [])) fp
  have p2 := ht r3 G3 r3.heap.objs.size (cellsFrom (r3.heap.objs.size + 1) scope.names (cloFrom X.env.cells scope.names [])) fp
  have p3 := hk r3 G3 r3.heap.objs.size (cellsFrom (r3.heap.objs.size + 1) scope.names (cloFrom X.env.cells scope.names [])) fp
  have p4 := hv r3 G3 r3.heap.objs.size (cellsFrom (r3.heap.objs.size + 1) scope.names (cloFrom X.env.cells scope.names [])) fp
  show codeAny _ _ (.compStart _ 0 (.ref it) (.ref D) (compEnvC scope (cellsFrom (r3.heap.objs.size + 1) scope.names (cloFrom X.env.cells scope.names [])) r3.heap.objs.size X.env)) _ { r3 with heap := pushCells (r3.heap.push { cls := .type "dict", data := .dict #[] }) scope.names }
  have eL : (compEnvC scope (cellsFrom (r3.heap.objs.size + 1) scope.names (cloFrom X.env.cells scope.names [])) r3.heap.objs.size X.env).locals = r3.heap.objs.size := rfl
  generalize compEnvC scope (cellsFrom (r3.heap.objs.size + 1) scope.names (cloFrom X.env.cells scope.names [])) r3.heap.objs.size X.env = ce at B4 p1 p2 p3 p4 eL ⊢
  have t4 : tn 0 (pushCells (r3.heap.push { cls := .type "dict", data := .dict #[] }) scope.names) := T.keep _ _ _ t3 fun b _ o e => pushCells_keeps _ _ _ _ (Heap.get?_push_of_some _ e)
  generalize er4 : ({ r3 with heap := pushCells (r3.heap.push { cls := .type "dict", data := .dict #[] }) scope.names } : Shared) = r4 at B4 ⊢
  have t4' : tn 0 r4.heap := by rw [← er4]; exact t4
  have fpk : ∀ {τ : L2.St} {G : Hp} {r : Shared}, Inv (X.blk r3 G3 scope ce fp) [] τ G r → (∀ b ∈ fp, G b = none) → ∀ b ∈ fp, FpOk (X.blk r3 G3 scope ce fp) [] G b := fun {τ G r} B hn b hb =>
    ⟨hn b hb, (B.ok.exf b hb).1, B.ok.exfs b hb, .inl hb, fun x c e => (B.ok.exf b hb).2 x c e, fun p hp => absurd (show p ∈ ([] : List (Addr × Obj)) ++ [] from hp) (by simp)⟩
  refine codeAny_compStart_dict ?loop (T.self X.A 0 _ _ _ t4' ?loop)
  case loop =>
    refine compLoop_anyD (fun n r => ∃ i G, Inv (X.blk r3 G3 scope ce fp) [] (wipe σ (own.map (·.2))) G r ∧ tn i r.heap ∧ (∀ b ∈ fp, G b = none) ∧ W i n G) ?_ m0 ⟨0, G3, B4, t4', n3, w0⟩
    rintro n r5 ⟨i, G5, B5, t5, n5, w5⟩
    rcases turn i n G5 w5 with ⟨stop, fin⟩ | ⟨go, Nx, hNx, step⟩
    · refine thnF (T.done (X.blk r3 G3 scope ce fp) rfl rfl rfl hc i [] r5 _ G5 (fun _ _ => False) B5 (fpk B5 n5) t5 stop) fun o r6 ⟨eo, B6⟩ => ?_
      subst eo
      have I7 : Inv X pins σ G5 r6 := I3.call' (ch := fp) B6.os B6.base B6.hok B6.bare fun b hb => let z := (f3 b hb).1.2; ⟨z.2.2.1, z.1, z.2.2.2.1, z.2.2.2.2⟩
      obtain ⟨m, hn, _⟩ := B6.loc
      have fr : G5 ce.locals = none := B6.free
      have hn : r6.heap.Ns ce.locals m := hn
      rw [eL] at fr hn
      obtain ⟨f0, f1, _, g3, g4, g5⟩ := I3.fpOk (Nat.le_refl _) fr
      exact ⟨m, hn, fun h'' sb => ⟨.ref D, G5, I7.turned (t' := r6.toks) (fun b o hb e => (sb.2 b hb).trans e) f0 f1 g3 g4 g5, rfl, fin⟩⟩
    · refine thnF (T.item (X.blk r3 G3 scope ce fp) rfl rfl rfl hc i [] r5 _ G5 (fun _ _ => False) B5 (fpk B5 n5) t5 go) fun o r6 ⟨u, eo, h6⟩ => ?_
      subst eo
      refine thnF h6 fun _ r7 ⟨x, G7, B7, rx, y7, t7, n7⟩ => ?_
      refine thnF (p1.run _ r7 _ G7 x u _ (B7.pinned (fpk B7 n7) (T.obj _ _ t7)) rx (step x G7 y7)) fun _ r8 ⟨τ, G8, B8, hw, q8⟩ => ?_
      refine thnF (p2.run _ r8 τ G8 _ B8 q8) fun c r9 ⟨G9, B9, q9⟩ => ?_
      have back : ∀ {r : Shared} {G : Hp}, Inv (X.blk r3 G3 scope ce fp) ([] ++ pinsAt fp r7.heap) τ G r → Nx G → ∃ m, m < n ∧ ∃ i G, Inv (X.blk r3 G3 scope ce fp) [] (wipe σ (own.map (·.2))) G r ∧ tn i r.heap ∧ (∀ b ∈ fp, G b = none) ∧ W i m G := fun {r G} B nx => by
        obtain ⟨m', lt, w'⟩ := hNx G nx
        have pin : ∀ b ∈ fp, ∀ o, r7.heap.get? b = some o → r.heap.get? b = some o ∧ G b = none := fun b hb o e => let z := B.pin (b, o) (List.mem_append_right _ (List.mem_append_right _ (mem_pinsAt hb e))); ⟨z.1, z.2.1⟩
        refine ⟨m', lt, i + 1, G, (B.unpinned (pins := [])).weak (by rw [← hw, wipe_length]) (fun j v e => ?_), T.keep _ _ _ t7 fun b hb o e => (pin b hb o e).1, fun b hb => let ⟨o, e, _⟩ := T.obj _ _ t7 b hb; (pin b hb o e).2, w'⟩
        rw [← hw] at e
        exact (wipe_some e).1
      cases c with
      | false => exact back B9 (by simpa using q9)
      | true =>
        have q9 := (show tk τ G9 _ by simpa using q9)
        refine thnF (p3.run _ r9 τ G9 _ B9 q9) fun z r10 ⟨yk, G10, B10, ry, q10⟩ => ?_
        refine thnF (p4.run _ r10 τ G10 _ B10 q10) fun z2 r11 ⟨yv, G11, B11, rz, kvs, k, b, ek, hb, hD, hz, nx⟩ => ?_
        subst ek
        cases ry
        exact dsetT (X := X.blk r3 G3 scope ce fp) hu B11 hD hb hz rz fun r12 B12 => back B12 nx
end
end WB
/-! calls with keywords in any order: each parameter tells where its value comes from -/
namespace WB
open PySem PySem.Spec PyProof.Rows L2
/-- (0, i): the i-th value by position; (1, i): the i-th default; (2, i): the i-th keyword; (3, i): the i-th default of a keyword-only one -/
def pick1 {α : Type} (k i : Nat) (vs ds mz zs : List α) : Option α := match k with
  | 0 => vs[i]?
  | 1 => ds[i]?
  | 2 => zs[i]?
  | _ => mz[i]?
def selG {α : Type} : List (Nat × Nat) → List α → List α → List α → List α → List α
  | [], _, _, _, _ => []
  | (k, i) :: ss, vs, ds, mz, zs => (pick1 k i vs ds mz zs).toList ++ selG ss vs ds mz zs
theorem vals_opt {vs : List V} {us : List Value} (r : Vals vs us) (i : Nat) : (vs[i]? = none ∧ us[i]? = none) ∨ ∃ v u, vs[i]? = some v ∧ us[i]? = some u ∧ RelV v u := by
  cases h : vs[i]? with
  | none =>
    refine .inl ⟨rfl, ?_⟩
    rw [List.getElem?_eq_none_iff] at h ⊢
    rw [← r.length]; exact h
  | some v =>
    obtain ⟨u, h1, h2⟩ := r.get h
    exact .inr ⟨v, u, rfl, h1, h2⟩
theorem opt_rel {vs : List V} {us : List Value} (r : Vals vs us) (i : Nat) : Vals vs[i]?.toList us[i]?.toList := by
  rcases vals_opt r i with ⟨e1, e2⟩ | ⟨v, u, e1, e2, rv⟩
  · rw [e1, e2]; exact .nil
  · rw [e1, e2]; exact .cons rv .nil
theorem sel_rel : ∀ (ss : List (Nat × Nat)) {vs ds mz zs : List V} {us its mv ws : List Value}, Vals vs us → Vals ds its → Vals mz mv → Vals zs ws → Vals (selG ss vs ds mz zs) (selG ss us its mv ws)
  | [], _, _, _, _, _, _, _, _, _, _, _, _ => .nil
  | (0, i) :: ss, _, _, _, _, _, _, _, _, r1, r2, r3, r4 => (opt_rel r1 i).append (sel_rel ss r1 r2 r3 r4)
  | (1, i) :: ss, _, _, _, _, _, _, _, _, r1, r2, r3, r4 => (opt_rel r2 i).append (sel_rel ss r1 r2 r3 r4)
  | (2, i) :: ss, _, _, _, _, _, _, _, _, r1, r2, r3, r4 => (opt_rel r4 i).append (sel_rel ss r1 r2 r3 r4)
  | (_ + 3, i) :: ss, _, _, _, _, _, _, _, _, r1, r2, r3, r4 => (opt_rel r3 i).append (sel_rel ss r1 r2 r3 r4)
section
variable {K : PySem.W.Frag} {x qual : Str} {params : Arguments} {body : List Stmt} {scope : Scope} {dvs : List V} {kws : List (Str × V)} {f : Addr} {fd : FuncData} {ps : List Str}
/-- no defaults -/
theorem kbnN (F : FunD K x qual params body scope [] kws f fd) (n : Nat) (ks : List Str) (ss : List (Nat × Nat))
    (h : ∀ (kV doc pm : Value) (an : Option Addr) (cdv ct : Value) (us ws : List Value), us.length = n → ws.length = ks.length → bindArgs (PySem.W.fnOf x qual params body scope .none kV doc pm an cdv ct) ⟨us, ks.zip ws⟩ = pure (ps.zip (selG ss us [] [] ws))) :
    ∃ g, KBn K fd ps n ks g (fun vs zs => selG ss vs [] [] zs) := by
  obtain ⟨oc, od, dV, kV, doc, pm, an, cdv, ct, osl, rfl, lk, hcd, hD, hK⟩ := F.ex
  rcases hD with ⟨_, rfl⟩ | ⟨e, _⟩
  · exact ⟨fun us ws => selG ss us [] [] ws, fun s us ws _ l1 l2 => .of_eq (h kV doc pm an cdv ct us ws l1 l2), fun r1 r2 => sel_rel ss r1 .nil .nil r2⟩
  · exact absurd rfl e
/-- defaults, none that is keyword-only lacking -/
theorem kbnD (F : FunD K x qual params body scope dvs kws f fd) (n : Nat) (ks : List Str) (ss : List (Nat × Nat)) (hd : dvs ≠ [])
    (h : ∀ (T : Addr) (kV doc pm : Value) (an : Option Addr) (cdv ct : Value) (us its ws : List Value), us.length = n → its.length = dvs.length → ws.length = ks.length →
      ∃ k, bindArgs (PySem.W.fnOf x qual params body scope (.ref T) kV doc pm an cdv ct) ⟨us, ks.zip ws⟩ = seqItems? (.ref T) >>= k ∧ k (some its.toArray) = pure (ps.zip (selG ss us its [] ws))) :
    ∃ g, KBn K fd ps n ks g (fun vs zs => selG ss vs dvs [] zs) := by
  obtain ⟨its, hb⟩ := FunD.kbindsD F n ks (fun vs ds zs => selG ss vs ds [] zs) hd (fun r1 r2 r3 => sel_rel ss r1 r2 .nil r3) h
  exact ⟨_, hb⟩
/-- defaults, and keyword-only ones that lack -/
theorem kbnK (F : FunD K x qual params body scope dvs kws f fd) (n : Nat) (ks : List Str) (ms : List (Str × V)) (ss : List (Nat × Nat)) (hd : dvs ≠ []) (hk : kws ≠ []) (hms : ∀ q ∈ ms, q ∈ kws)
    (h : ∀ (T D : Addr) (doc pm : Value) (an : Option Addr) (cdv ct : Value) (us its mv ws : List Value), us.length = n → its.length = dvs.length → mv.length = ms.length → ws.length = ks.length →
      ∃ k, bindArgs (PySem.W.fnOf x qual params body scope (.ref T) (.ref D) doc pm an cdv ct) ⟨us, ks.zip ws⟩ = seqItems? (.ref T) >>= k ∧ KwChain D ((ms.map (·.1)).zip mv) (k (some its.toArray)) (ps.zip (selG ss us its mv ws))) :
    ∃ g, KBn K fd ps n ks g (fun vs zs => selG ss vs dvs (ms.map (·.2)) zs) := by
  obtain ⟨its, mv, hb⟩ := FunD.kbinds F n ks ms (fun vs ds mz zs => selG ss vs ds mz zs) hd hk hms (fun r1 r2 r3 r4 => sel_rel ss r1 r2 r3 r4) h
  exact ⟨_, hb⟩
end
def MakeKG (C : Addr) (n m : Nat) (sp : Sp) (gV : List V → List V → List V) (E : XK) (vs zs : List V) (H : Hp) (Q : VK) : Prop := vs.length = n ∧ zs.length = m ∧ ∀ x dx, H x = none → H dx = none → dx ≠ x → sp (gV (.ref x :: vs) zs) (upd (upd H dx (.own x)) x (.ins C dx [])) (fun v H3 => v = .non ∧ Q (.ref x) H3) E
theorem s_makeK {C : Addr} {n m : Nat} {sp : Sp} {gV : List V → List V → List V} {E : XK} {t tk : TA} {σ : L2.St} {H : Hp} {Q : VK} (k : t σ H fun vs H1 => tk σ H1 fun zs H2 => MakeKG C n m sp gV E vs zs H2 Q) : tMakeK C n m sp gV E t tk σ H Q := k
section
variable {X : Cx} {CX : CXT} {k n : Nat} {f C : Addr} {fd : FuncData} {ps ks : List Str} {sp : Sp} {E : XK} {x m : Str} {p pos apos : Pos} {o : Expr} {kws : List Keyword} {ta : TE} {tk : TA} {g : List Value → List Value → List Value} {gV : List V → List V → List V}
/-- f(k = v, ..) -/
def tCallK0 (m : Nat) (sp : Sp) (gV : List V → List V → List V) (E : XK) (tk : TA) : TE := fun σ H Q => tk σ H fun zs H2 => zs.length = m ∧ sp (gV [] zs) H2 Q E
theorem pe_callK0 (F : FnOk X.prog X.w X.K X.mg X.base CX k f fd ps sp) (hr : Room k X.A) (hg : Gl X x) (hm : X.mg x = some (.ref f)) (hk : PySem.W.keepIn X.K (.ref f) = true) (hb : KBn X.K fd ps 0 ks g gV) (hx : Passes CX X E) (hkw : PK X kws tk)
    (hall : (backToKw pos (keywordEach kws X.env)).all (·.1.isSome) = true := by rfl) (hks : (backToKw pos (keywordEach kws X.env)).filterMap (·.1) = ks := by rfl) (hdb : (x == ("__debug__" : Str)) = false := by decide)
    (hpl : ((backTo pos (starEach [] X.env)).any (·.1) || (backToKw pos (keywordEach kws X.env)).any (·.1.isNone)) = false := by rfl) : PE X (.Call (.Name x p) [] kws pos) (tCallK0 ks.length sp gV E tk) := by
  refine ⟨fun pins s σ H Q I h => wpAny_Call_Name_kw (ld_glob I hg hm ?_ hdb)⟩
  refine PySem.W.callWith_KW0 (h₀ := X.base) I.ok.mod.kin hk hall (thn (hkw.run pos pins s σ H _ I h) fun ws s2 ⟨zs, H2, I2, rz, l2, q2⟩ => ⟨I2.kIn, ?_⟩) hpl
  rw [hks]
  exact run_fnN (us := []) (vs := []) F hr hb hx I2 .nil rz rfl l2 q2
/-- o.m(k = v, ..) -/
def tMethK (C : Addr) (m : Str) (n : Nat) (sp : Sp) (gV : List V → List V → List V) (E : XK) (to : TE) (tk : TA) : TE := fun σ H Q => to σ H fun x H1 => ∃ a dx fs, x = .ref a ∧ H1 a = some (.ins C dx fs) ∧ fs.lookup m = none ∧ tk σ H1 fun zs H2 => zs.length = n ∧ sp (gV [x] zs) H2 Q E
theorem pe_methK {pl : Sem Bool} (he : PE X o ta) (c : Cls X.K C) (hm : Meth X.K C m f) (F : FnOk X.prog X.w X.K X.mg X.base CX k f fd ps sp) (hr : Room k X.A) (hb : KBn X.K fd ps 1 ks g gV) (hx : Passes CX X E) (hkw : PK X kws tk)
    (hall : (backToKw pos (keywordEach kws X.env)).all (·.1.isSome) = true := by rfl) (hks : (backToKw pos (keywordEach kws X.env)).filterMap (·.1) = ks := by rfl)
    (hpl : ((backTo pos (starEach [] X.env)).any (·.1) || (backToKw pos (keywordEach kws X.env)).any (·.1.isNone)) = false := by rfl)
    (ht : eval (.Call (.Attribute o m apos) [] kws pos) X.env = (do
      let ov ← eval o X.env
      standAt apos.atName
      let (f, first) ← holding [ov] (getMethod ov m pl)
      callWith pos f first (backTo pos (starEach [] X.env)) (backToKw pos (keywordEach kws X.env))) := by rfl) :
    PE X (.Call (.Attribute o m apos) [] kws pos) (tMethK C m ks.length sp gV E ta tk) := by
  refine ⟨fun pins s σ H Q I h => PySem.W.methodCall_KW (pl := pl) (thn (he.run pins s σ H _ I h) fun u s1 ⟨x, H1, I1, rx, a, dx, fs, ex, ea, l, q⟩ => ?_) ht⟩
  subst ex
  obtain rfl : u = Value.ref a := rx
  refine getmeth_ok I1 ea c hm l (PySem.W.callWith_KW0 (first := [.ref a]) (h₀ := X.base) I.ok.mod.kin hm.kp hall (thn (hkw.run pos pins s1 σ H1 _ I1 q) fun ws s2 ⟨zs, H2, I2, rz, l2, q2⟩ => ⟨I2.kIn, ?_⟩) hpl)
  rw [hks]
  exact run_fnN (us := [.ref a]) (vs := [.ref a]) F hr hb hx I2 (.cons rfl .nil) rz rfl l2 q2
end
end WB
/-! classmethods by keyword; a class made by a local name -/
namespace WB
open PySem PySem.Spec PyProof.Rows L2 ClX
section
variable {X : Cx} {CX : CXT} {k n : Nat} {C p g : Addr} {fd : FuncData} {ps ks : List Str} {mc : Value} {sp : Sp} {E : XK} {o e : Expr} {es : List Expr} {f m x : Str} {pos apos q1 : Pos} {ta : TE} {t tk : TA} {pl : Sem Bool} {kws : List Keyword} {gS : List Value → List Value → List Value} {gV : List V → List V → List V} {dvs : List V} {ds : List Value}
/-- C.m(k = v, ..) -/
def tCMethK (C : Addr) (n : Nat) (sp : Sp) (gV : List V → List V → List V) (E : XK) (ta : TE) (tk : TA) : TE := fun σ H Q => ta σ H fun x H1 => x = .ref C ∧ tk σ H1 fun zs H2 => zs.length = n ∧ sp (gV [.ref C] zs) H2 Q E
theorem pe_cmethK (he : PE X o ta) (r : CRead X.K C mc) (c : CMet X.K C mc m p g) (F : FnOk X.prog X.w X.K X.mg X.base CX k g fd ps sp) (hr : Room k X.A) (hb : KBn X.K fd ps 1 ks gS gV) (hx : Passes CX X E) (hkw : PK X kws tk)
    (hall : (backToKw pos (keywordEach kws X.env)).all (·.1.isSome) = true := by rfl) (hks : (backToKw pos (keywordEach kws X.env)).filterMap (·.1) = ks := by rfl)
    (hpl : ((backTo pos (starEach [] X.env)).any (·.1) || (backToKw pos (keywordEach kws X.env)).any (·.1.isNone)) = false := by rfl)
    (ht : eval (.Call (.Attribute o m apos) [] kws pos) X.env = (do
      let ov ← eval o X.env
      standAt apos.atName
      let (f, first) ← holding [ov] (getMethod ov m pl)
      callWith pos f first (backTo pos (starEach [] X.env)) (backToKw pos (keywordEach kws X.env))) := by rfl) :
    PE X (.Call (.Attribute o m apos) [] kws pos) (tCMethK C ks.length sp gV E ta tk) := by
  refine ⟨fun pins s σ H Q I h => PySem.W.methodCall_KW (pl := pl) (thn (he.run pins s σ H _ I h) fun u s1 ⟨x, H1, I1, rx, ex, q⟩ => ?_) ht⟩
  subst ex
  obtain rfl : u = Value.ref C := rx
  refine getmethcm_ok I1 r c fun s2 I2 => ?_
  refine PySem.W.callWith_of hpl (PySem.W.keeps_M (K := X.K) (self := .ref C) c.fi) (evalArgs_kw2_nil hall (thn (hkw.run pos _ s2 σ H1 _ I2 q) fun ws s3 ⟨zs, H2, I3, rz, l2, q2⟩ => ⟨⟨pin_at I3, I3.kIn⟩, ?_⟩))
  rw [hks]
  have z : wpAny (model X.prog X.w) X.A (call (.ref s1.heap.objs.size) [] (ks.zip ws)) (EP X ((s1.heap.objs.size, PySem.W.methodObj (.ref g) (.ref C)) :: pins) σ Q) X.xe s3 := by
    refine wpAny_call (PySem.W.method_call (pin_at I3) ?_)
    have r2 := hb.rel (vs := [.ref C]) (us := [.ref C]) (.cons rfl .nil) rz
    refine codeAny_mono (F.run X.A X.stack s3 H2 ⟨[.ref C], ks.zip ws⟩ (gS [.ref C] ws) (gV [.ref C] zs) Q E hr I3.env0 (hb.to s3 [.ref C] ws I3.kIn rfl (rz.length.symm.trans l2)) r2 q2) fun r s' hq => ?_
    cases r with
    | error e => exact hx _ σ H2 s3 e s' I3 hq
    | ok fl =>
      cases fl with
      | ret u => exact I3.after hq
      | next => exact False.elim hq
      | brk => exact False.elim hq
      | cont => exact False.elim hq
  exact thn z fun _ _ y => unpinE y
/-- x(e, ..), x a local name that holds the class at C -/
def tMakeL (i : Nat) (C : Addr) (sp : Sp) (dvs : List V) (E : XK) (t : TA) : TE := fun σ H Q => σ[i]? = some (some (.ref C)) ∧ t σ H fun vs H1 => ∀ x dx, H1 x = none → H1 dx = none → dx ≠ x → sp (.ref x :: (vs ++ dvs)) (upd (upd H1 dx (.own x)) x (.ins C dx [])) (fun v H2 => v = .non ∧ Q (.ref x) H2) E
theorem pe_makeL {i : Nat} {fI : Addr} (M : Mk X.K C fI) (F : FnOk X.prog X.w X.K X.mg X.base CX k fI fd ps sp) (hr : Room (k + 1) X.A) (hN : X.N[i]? = some x) (hv : Vis X.env.scope x) (hb : Binds X.K fd ps ds) (hd : Vals dvs ds) (hx : Passes CX X E) (ha : PA X (e :: es) t)
    (hdb : (x == ("__debug__" : Str)) = false := by decide) (hcd : (x == ("__classdict__" : Str)) = false := by decide)
    (he : starEach (e :: es) X.env = (false, eval e X.env) :: starEach es X.env := by rfl) (hpl : (backTo pos (starEach es X.env)).any (·.1) = false := by rfl) : PE X (.Call (.Name x q1) (e :: es) [] pos) (tMakeL i C sp dvs E t) := by
  refine ⟨fun pins s σ H Q I h => ?_⟩
  obtain ⟨hs, ht⟩ := h
  refine wpAny_Call_Name_kw (thn ((pe_var (pos := q1) hN hv hdb hcd).run pins s σ H (fun v H1 => v = .ref C ∧ H1 = H) I ⟨.ref C, hs, rfl, rfl⟩) fun u s1 ⟨v, H1, I1, r1, z⟩ => ?_)
  obtain ⟨rfl, rfl⟩ := z
  cases r1
  refine PySem.W.callWith_K (h₀ := X.base) I.ok.mod.kin M.kp (thn (ha.run pos pins s1 σ _ _ I1 ht) fun us s2 ⟨vs, H2, I2, r, q⟩ => ⟨I2.kIn, ?_⟩) he hpl
  exact run_make M F hr hb hd hx I2 r q
end
end WB
namespace WB
open PySem PySem.Spec PyProof.Rows L2
/-! ### data of kinds -/
def dT1 (ps : List (List Nat)) : PyData := .tuple (ps.map dS)
def rowD (l : List Nat) (ps : List (List Nat)) : PyData := .tuple [dS l, dT1 ps]
theorem lay_T1 {ps : List (List Nat)} (h : ∀ p ∈ ps, plain p) : PyData.canLay0 (dT1 ps) = true := by
  unfold dT1
  rw [PyData.canLay0]
  exact canLay_strs h
theorem dep_T1 (ps : List (List Nat)) : PyData.depth (dT1 ps) ≤ 1 := by
  unfold dT1
  rw [PyData.depth, depth_strs]
  omega
theorem shaped_T1 {ps : List (List Nat)} (h : ∀ p ∈ ps, plain p) : SeqAt.shaped (dT1 ps) = true := by
  unfold SeqAt.shaped
  refine Bool.and_eq_true_iff.mpr ⟨lay_T1 h, decide_eq_true ?_⟩
  have := dep_T1 ps
  omega
theorem lay_S {l : List Nat} (h : plain l) : PyData.canLay0 (dS l) = true := by
  unfold dS
  rw [PyData.canLay0]
  exact strOk_S h
theorem shaped_row {l : List Nat} {ps : List (List Nat)} (hl : plain l) (h : ∀ p ∈ ps, plain p) : SeqAt.shaped (rowD l ps) = true := by
  unfold SeqAt.shaped rowD
  refine Bool.and_eq_true_iff.mpr ⟨?_, decide_eq_true ?_⟩
  · rw [PyData.canLay0]
    simp only [PyData.canLayAll0, lay_S hl, lay_T1 h, Bool.and_self]
  · have h1 := dep_T1 ps
    rw [PyData.depth]
    simp only [PyData.depthAll]
    have h2 : PyData.depth (dS l) = 0 := by simp [dS, PyData.depth]
    omega
theorem eqv_T1 (ps qs : List (List Nat)) : PyData.eqv (dT1 ps) (dT1 qs) = decide (ps = qs) := by
  unfold dT1
  rw [PyData.eqv, eqv_strs]
theorem eqv_S (a b : List Nat) : PyData.eqv (dS a) (dS b) = decide (a = b) := by
  have := eqv_strs [a] [b]
  simp only [List.map, PyData.eqvAll, Bool.and_true] at this
  rw [this]
  simp
section
variable {K : PySem.W.Frag} {H H' : Hp} {a b p : Addr} {l l' : List Nat} {ps ps' : List (List Nat)} {Q : VK} {E : XK}
theorem dp_T1 {t : Addr} (h : SqT K H t (ps.map vS)) : Dp K H (.ref t) (dT1 ps) := .tup h (dp_strs ps)
theorem dp_row {q t : Addr} (h : SqT K H q [vS l, .ref t]) (ht : SqT K H t (ps.map vS)) : Dp K H (.ref q) (rowD l ps) := .tup h (.cons (.str _) (.cons (dp_T1 ht) .nil))
theorem s_eqT1 {t u : Addr} (h1 : SqT K H t (ps.map vS)) (h2 : SqT K H u (ps'.map vS)) (p1 : ∀ p ∈ ps, plain p) (p2 : ∀ p ∈ ps', plain p) (k : Q (.bl (decide (ps = ps'))) H) : rEqD K (.ref t) (.ref u) H Q := by
  refine ⟨_, _, dp_T1 h1, dp_T1 h2, shaped_T1 p1, shaped_T1 p2, ?_⟩
  rw [eqv_T1]
  exact k
/-- kinds whose texts are plain -/
def KindAtP (K : PySem.W.Frag) (H : Hp) (a : Addr) (l : List Nat) (ps : List (List Nat)) : Prop := KindAt K H a l ps ∧ plain l ∧ ∀ p ∈ ps, plain p
theorem s_neRow {q t q' t' : Addr} (h : SqT K H q [vS l, .ref t]) (ht : SqT K H t (ps.map vS)) (h' : SqT K H q' [vS l, .ref t']) (ht' : SqT K H t' (ps.map vS)) (hl : plain l) (hp : ∀ p ∈ ps, plain p) (k : Q (.bl false) H) : rNeD K (.ref q) (.ref q') H Q := by
  refine ⟨_, _, dp_row h ht, dp_row h' ht', shaped_row hl hp, shaped_row hl hp, ?_⟩
  rw [SeqAt.eqv_refl _ (Bool.and_eq_true_iff.mp (shaped_row hl hp)).1]
  exact k
/-! ### promises -/
def sp_Kind_signs (K : PySem.W.Frag) : Sp := fun vs H Q _ => ∃ a : Addr, vs = [.ref a] ∧ ∃ l ps, KindAt K H a l ps ∧ Q (vS l) H
def sp_Kind_pairs (K : PySem.W.Frag) : Sp := fun vs H Q _ => ∃ a : Addr, vs = [.ref a] ∧ ∃ l ps, KindAt K H a l ps ∧ ∀ t, SqT K H t (ps.map vS) → Q (.ref t) H
def sp_Kind_row (K : PySem.W.Frag) : Sp := fun vs H Q _ => ∃ a : Addr, vs = [.ref a] ∧ ∃ l ps, KindAt K H a l ps ∧ ∀ q t H', H q = none → Ex [] H H' → H' q = some (.tup [vS l, .ref t]) → SqT K H' t (ps.map vS) → Q (.ref q) H'
/-- the row of a kind -/
def RowAt (K : PySem.W.Frag) (H : Hp) (q : Addr) (l : List Nat) (ps : List (List Nat)) : Prop := ∃ t, SqT K H q [vS l, .ref t] ∧ SqT K H t (ps.map vS)
theorem RowAt.ex0 (e : Ex [] H H') (h : RowAt K H a l ps) : RowAt K H' a l ps := by
  obtain ⟨t, h1, h2⟩ := h
  exact ⟨t, e.sqT (by simp) h1, e.sqT (by simp) h2⟩
def goodRow (l : List Nat) (ps : List (List Nat)) : Prop := goodS l ∧ sgn l = l ∧ goodP l ps ∧ srt ps = ps ∧ ps.length < 64
def sp_Kind_made (K : PySem.W.Frag) : Sp := fun vs H Q _ => ∃ q : Addr, vs = [.ref (He.ga K "Kind"), .ref q] ∧ ∃ l ps, RowAt K H q l ps ∧ goodRow l ps ∧ ∀ x H', H x = none → Ex [] H H' → KindAt K H' x l ps → Q (.ref x) H'
def sp_Kind_eq (K : PySem.W.Frag) : Sp := fun vs H Q _ => ∃ (a : Addr) (v : V), vs = [.ref a, v] ∧ ∃ l ps, KindAtP K H a l ps ∧ ((∃ b l' ps', v = .ref b ∧ KindAtP K H b l' ps' ∧ Q (.bl (decide (l = l' ∧ ps = ps'))) H) ∨ (∃ n, Kd K H v n ∧ Q (.bl false) H))
theorem u_kSigns (h : KindAt K H a l ps) (k : Q (vS l) H) : PropG (He.ga K "Kind") (sp_Kind_signs K) [] E (.ref a) H Q := by
  obtain ⟨dx, t, h1, h2⟩ := id h
  exact ⟨a, dx, _, rfl, h1, a, rfl, l, ps, h, k⟩
theorem u_kPairs (h : KindAt K H a l ps) (k : ∀ t, SqT K H t (ps.map vS) → Q (.ref t) H) : PropG (He.ga K "Kind") (sp_Kind_pairs K) [] E (.ref a) H Q := by
  obtain ⟨dx, t, h1, h2⟩ := id h
  exact ⟨a, dx, _, rfl, h1, a, rfl, l, ps, h, k⟩
theorem u_kRow (h : KindAt K H a l ps) (k : ∀ q t H', H q = none → Ex [] H H' → H' q = some (.tup [vS l, .ref t]) → SqT K H' t (ps.map vS) → Q (.ref q) H') : PropG (He.ga K "Kind") (sp_Kind_row K) [] E (.ref a) H Q := by
  obtain ⟨dx, t, h1, h2⟩ := id h
  exact ⟨a, dx, _, rfl, h1, a, rfl, l, ps, h, k⟩
theorem u_kEq (h : KindAtP K H a l ps) (h2 : KindAtP K H b l' ps') (k : Q (.bl (decide (l = l' ∧ ps = ps'))) H) : rEqO (He.ga K "Kind") (sp_Kind_eq K) E (.ref a) (.ref b) H Q := by
  obtain ⟨⟨dx, t, h1, _⟩, _⟩ := id h
  obtain ⟨⟨dy, t', h1', _⟩, _⟩ := id h2
  exact ⟨a, dx, _, b, dy, _, rfl, rfl, h1, h1', a, _, rfl, l, ps, h, .inl ⟨b, l', ps', rfl, h2, _, rfl, k⟩⟩
theorem u_kNe (F : KindK K) (h : KindAtP K H a l ps) (h2 : KindAtP K H b l' ps') (k : Q (.bl (!decide (l = l' ∧ ps = ps'))) H) : rNeA K (He.ga K "Kind") (sp_Kind_eq K) E (.ref a) (.ref b) H Q := by
  obtain ⟨⟨dx, t, h1, _⟩, _⟩ := id h
  obtain ⟨⟨dy, t', h1', _⟩, _⟩ := id h2
  exact ⟨a, dx, _, _, rfl, h1, F.ty _ _ _ _ h1', notFirst_own, a, _, rfl, l, ps, h, .inl ⟨b, l', ps', rfl, h2, _, rfl, k⟩⟩
theorem u_kEqK {v : V} {n : String} (h : KindAtP K H a l ps) (hk : Kd K H v n) (k : Q (.bl false) H) : rEqA K (He.ga K "Kind") (sp_Kind_eq K) E (.ref a) v H Q := by
  obtain ⟨⟨dx, t, h1, _⟩, _⟩ := id h
  exact ⟨a, dx, _, _, rfl, h1, hk.1, notFirst_KD hk.2, a, _, rfl, l, ps, h, .inr ⟨n, hk, _, rfl, k⟩⟩
theorem u_kNeK {v : V} {n : String} (h : KindAtP K H a l ps) (hk : Kd K H v n) (k : Q (.bl true) H) : rNeA K (He.ga K "Kind") (sp_Kind_eq K) E (.ref a) v H Q := by
  obtain ⟨⟨dx, t, h1, _⟩, _⟩ := id h
  exact ⟨a, dx, _, _, rfl, h1, hk.1, notFirst_KD hk.2, a, _, rfl, l, ps, h, .inr ⟨n, hk, _, rfl, k⟩⟩
theorem u_makeKindK {n m : Nat} {gV : List V → List V → List V} {us zs : List V} {s : List Nat} {v : V} (ln : us.length = n) (lm : zs.length = m) (eg : ∀ x : Addr, gV (.ref x :: us) zs = [.ref x, vS s, v]) (hs : goodS s) (hp : PairsV K H v s ps) (k : ∀ x H', H x = none → Ex [] H H' → KindAt K H' x (sgn s) (srt ps) → Q (.ref x) H') :
    MakeKG (He.ga K "Kind") n m (sp_Kind_init K) gV E us zs H Q := by
  refine ⟨ln, lm, fun x dx hx hdx ne => ?_⟩
  rw [eg]
  exact u_makeKind (us := [vS s, v]) (dvs := []) rfl hs hp k x dx hx hdx ne
theorem u_makeKindL {i : Nat} {tr : TA} {σ : St} (hi : σ[i]? = some (some (.ref (He.ga K "Kind")))) (k : tr σ H fun us H1 => MakeG (He.ga K "Kind") (sp_Kind_init K) [] E us H1 Q) : tMakeL i (He.ga K "Kind") (sp_Kind_init K) [] E tr σ H Q := ⟨hi, k⟩
theorem s_cmeth {C : Addr} {sp : Sp} {E : XK} {ta : TE} {tr : TA} {σ : St} (k : ta σ H fun x H1 => x = .ref C ∧ tr σ H1 fun vs H2 => sp (.ref C :: vs) H2 Q E) : ClX.tCMeth C sp E ta tr σ H Q := k
theorem s_cmethK {C : Addr} {n : Nat} {gV : List V → List V → List V} {sp : Sp} {E : XK} {ta : TE} {tr : TA} {σ : St} (k : ta σ H fun x H1 => x = .ref C ∧ tr σ H1 fun zs H2 => zs.length = n ∧ sp (gV [.ref C] zs) H2 Q E) : tCMethK C n sp gV E ta tr σ H Q := k
theorem u_isiKK (F : KindK K) (h : KindAt K H a l ps) (k : Q (.bl true) H) : rIsi K [.ref a, .ref (He.ga K "Kind")] H Q := by
  obtain ⟨dx, t, h, _⟩ := h
  exact ⟨_, _, _, _, _, rfl, .own _, F.ty _ _ _ _ h, F.me, k⟩
theorem u_isiNK (F : KindK K) {v : V} {n : String} (h : Kd K H v n) (k : Q (.bl false) H) : rIsi K [v, .ref (He.ga K "Kind")] H Q := ⟨_, _, _, _, _, rfl, .own _, h.1, F.no n h.2, k⟩
theorem s_self {x : V} {A : Prop} (k : A) : x = x ∧ A := ⟨rfl, k⟩
end
/-! ### plain -/
theorem let_plain {c : Nat} (h : c ∈ LET) : c < 55296 := by
  simp only [LET, List.mem_cons, List.not_mem_nil, or_false] at h
  omega
theorem sgn_perm (s : List Nat) : (sgn s).Perm s := by
  unfold sgn
  have := (srt_perm (s.map fun c => [c])).flatten
  rw [flat1] at this
  exact this
theorem sgn_of_perm {s t : List Nat} (h : s.Perm t) : sgn s = sgn t := by
  unfold sgn
  rw [srt_of_perm (h.map _)]
theorem sgn_idem (s : List Nat) : sgn (sgn s) = sgn s := sgn_of_perm (sgn_perm s)
theorem goodS_perm {s t : List Nat} (h : goodS s) (p : t.Perm s) : goodS t := ⟨isWord_mk (by rw [p.length_eq]; exact (isWord_len h.1).1) (by rw [p.length_eq]; exact (isWord_len h.1).2) fun c hc => isWord_in h.1 c (p.mem_iff.mp hc), by rw [p.length_eq]; exact h.2.1, p.nodup_iff.mpr h.2.2⟩
theorem goodP_signs {s t : List Nat} {ps : List (List Nat)} (h : goodP s ps) (hs : ∀ c ∈ s, c ∈ t) : goodP t ps := ⟨h.1, fun p hp => ⟨(h.2 p hp).1, fun c hc => hs c ((h.2 p hp).2 c hc)⟩⟩
theorem goodRow_of {s : List Nat} {ps : List (List Nat)} (h : goodS s) (hp : goodP s ps) (hl : ps.length < 64) : goodRow (sgn s) (srt ps) :=
  ⟨goodS_perm h (sgn_perm s), sgn_idem s, goodP_perm (goodP_signs hp fun c hc => (sgn_perm s).mem_iff.mpr hc) (srt_perm ps), srt_of_perm (srt_perm ps), by rw [srt_len]; exact hl⟩
theorem plainS {s : List Nat} (h : goodS s) : plain (sgn s) := fun c hc => let_plain (isWord_in h.1 c ((sgn_perm s).mem_iff.mp hc))
theorem plainP {s : List Nat} {ps : List (List Nat)} (h : goodS s) (hp : goodP s ps) : ∀ p ∈ srt ps, plain p := fun p hq c hc => let_plain (isWord_in h.1 c ((hp.2 p (srt_mem.mp hq)).2 c hc))
end WB
namespace WB
open PySem PySem.Spec PyProof.Rows L2
local macro_rules | `(tactic| walk_at "lit") => `(tactic| first | exact lit_abc | exact lit_empty)
local macro_rules | `(tactic| walk_at "nm") => `(tactic| focus first | exact List.not_mem_nil | (simp only [List.mem_singleton]; first | assumption | (exact Ne.symm (by assumption)) | (intro hz; subst hz; simp_all; done)))
local macro_rules | `(tactic| walk_at "hp") => `(tactic| first | assumption | (apply Ex.get0 (by assumption); walk_at "hp") | (apply Ex.get (by assumption); (walk_at "nm"); (walk_at "hp")))
local macro_rules | `(tactic| walk_at "sq") => `(tactic| first | assumption | (apply SqL.of; walk_at "hp") | (apply Ex.sqL (by assumption); (walk_at "nm"); (walk_at "sq")))
local macro_rules | `(tactic| walk_at "sqt") => `(tactic| first | assumption | (apply SqT.of; walk_at "hp") | (apply Ex.sqT (by assumption); (walk_at "nm"); (walk_at "sqt")))
local macro_rules | `(tactic| walk_at "sz") => `(tactic| focus ((with_reducible refine Nat.le_trans (m := 100000) ?_ (by decide)); first | omega | (simp; done) | (simp; omega)))
local macro_rules | `(tactic| walk_at "mul") => `(tactic| first | exact Or.inr ⟨by omega, by omega⟩ | exact Or.inl ⟨by omega, by omega⟩)
local macro_rules | `(tactic| walk_at "pool") => `(tactic| first | assumption | (apply PoolAt.ex (by assumption); (walk_at "nm"); (walk_at "pool")))
local macro_rules | `(tactic| walk_at "ring") => `(tactic| first | assumption | (apply RingAt.ex (by assumption); (walk_at "nm"); (walk_at "ring")))
local macro_rules | `(tactic| walk_at "st") => `(tactic| first
  | with_reducible refine s_seq ?_
  | with_reducible refine s_asg ?_
  | with_reducible refine s_gName ?_
  | with_reducible refine s_ret ?_
  | with_reducible refine s_ifS ?_
  | with_reducible refine s_next ?_
  | with_reducible refine s_op ?_
  | ((with_reducible apply s_var); exact rfl)
  | ((with_reducible apply s_cS); (walk_at "lit"))
  | with_reducible refine s_c ?_
  | with_reducible refine s_cb ?_
  | with_reducible refine s_cons ?_
  | with_reducible refine s_nil ?_
  | with_reducible refine s_un ?_
  | with_reducible refine s_call ?_
  | with_reducible refine s_test ?_
  | with_reducible refine s_tB ?_
  | with_reducible refine s_blQ ?_
  | with_reducible refine s_not ?_
  | with_reducible refine s_and ?_
  | with_reducible refine s_or ?_
  | with_reducible refine s_andV ?_
  | with_reducible refine s_orV ?_
  | with_reducible refine s_notV ?_
  | with_reducible refine s_ifE ?_
  | with_reducible refine s_chain ?_
  | ((with_reducible refine s_T ?_ ?_); (with_reducible exact rfl))
  | with_reducible refine s_nT ?_
  | with_reducible refine s_nF ?_
  | ((with_reducible refine s_F ?_ ?_); (with_reducible exact rfl))
  | ((with_reducible refine s_T ?_ ?_); assumption)
  | ((with_reducible refine s_F ?_ ?_); assumption)
  | ((with_reducible refine s_nB ?_ ?_); assumption)
  | ((with_reducible refine s_nA ?_ ?_); assumption)
  | ((with_reducible refine s_Td ?_ ?_); omega)
  | ((with_reducible refine s_Fd ?_ ?_); omega)
  | ((with_reducible refine s_nTd ?_ ?_); omega)
  | ((with_reducible refine s_nFd ?_ ?_); omega)
  | with_reducible refine s_sfld ?_
  | with_reducible refine s_addI ?_
  | with_reducible refine s_subI ?_
  | ((with_reducible refine s_mulI ?_ ?_); (walk_at "mul"))
  | ((with_reducible refine s_divI ?_ ?_); exact ⟨by omega, by omega⟩)
  | ((with_reducible refine s_modI ?_ ?_); omega)
  | ((with_reducible refine s_powI ?_ ?_); exact ⟨by decide, by decide, by decide⟩)
  | with_reducible refine s_ltI ?_
  | with_reducible refine s_leI ?_
  | with_reducible refine s_gtI ?_
  | with_reducible refine s_geI ?_
  | with_reducible refine s_negI ?_
  | with_reducible refine s_absI ?_
  | with_reducible refine s_intI ?_
  | with_reducible refine s_min2 ?_
  | with_reducible refine s_max2 ?_
  | with_reducible refine s_eqI ?_
  | with_reducible refine s_neI ?_
  | with_reducible refine s_eqS ?_
  | with_reducible refine s_neS ?_
  | with_reducible refine s_inSg ?_
  | with_reducible refine s_notInSg ?_
  | ((with_reducible refine s_addS ?_ ?_); (walk_at "sz"))
  | ((with_reducible refine s_lenS ?_ ?_); (walk_at "sz"))
  | ((with_reducible apply s_lenL); (walk_at "sq"))
  | ((with_reducible apply s_lenT); (walk_at "sqt"))
  | ((with_reducible apply s_ixL); (walk_at "sq"); exact rfl)
  | ((with_reducible apply s_ixT); (walk_at "sqt"); exact rfl)
  | with_reducible refine s_gSub ?_
  | ((with_reducible apply s_setL); (walk_at "hp"); (exact rfl); (intro _ _ _))
  | ((with_reducible refine s_alloc ?_ ?_); (walk_at "sz"); (intro _ _ _ _ _))
  | ((with_reducible refine s_divmod ?_ ?_); (exact ⟨by omega, PyProof.noPylong_small (by omega)⟩); (intro _ _ _ _ _))
  | ((with_reducible apply s_gTup); (walk_at "sqt"); (exact rfl))
  | ((with_reducible apply s_gLst); (walk_at "sq"); (exact rfl))
  | with_reducible refine s_gCons ?_
  | with_reducible refine s_gNil ?_
  | with_reducible refine s_lc ?_
  | ((with_reducible apply s_cat); (walk_at "hp"); (walk_at "hp"); (walk_at "sz"); (intro _ _ _ _ _))
  | ((with_reducible apply s_slL); (walk_at "sq"); (intro _ _ _ _ _))
  | with_reducible refine s_for ?_
  | with_reducible refine s_rng1 ?_
  | ((with_reducible refine s_rng1i ?_ ?_); (constructor <;> omega))
  | with_reducible refine s_rng2 ?_
  | ((with_reducible refine s_rng2i ?_ ?_); (refine ⟨?_, ?_, ?_, ?_⟩ <;> omega))
  | with_reducible refine s_iStr ?_
  | with_reducible refine s_iStrS ?_
  | with_reducible refine s_iList ?_
  | ((with_reducible apply s_iListA); (walk_at "sq"))
  | with_reducible refine s_iTup ?_
  | ((with_reducible apply s_iTupA); (walk_at "sqt"))
  | with_reducible refine s_sl ?_
  | with_reducible refine s_noPart ?_
  | with_reducible refine s_part ?_
  | with_reducible refine s_int1 ?_
  | ((with_reducible refine s_slS ?_ ?_); (walk_at "sz"))
  | with_reducible refine s_tup ?_
  | with_reducible refine s_lst ?_
  | with_reducible refine s_par ?_
  | with_reducible refine s_pair ?_
  | with_reducible refine s_M1 ?_
  | with_reducible refine s_isStr ?_
  | with_reducible refine s_revS ?_
  | ((with_reducible refine s_revS1 ?_ ?_); (walk_at "sz"))
  | with_reducible refine s_fldE ?_
  | with_reducible refine s_propE ?_
  | ((with_reducible refine u_draw ?_ ?_ ?_ ?_); omega; omega; (walk_at "pool"); (intro _ _ _ _ _ _))
  | ((with_reducible refine u_pool ?_); (intro _ _ _ _ _))
  | with_reducible refine u_is_integer ?_
  | with_reducible refine s_isiII ?_
  | with_reducible refine s_isiIB ?_
  | with_reducible refine s_isiSS ?_
  | ((with_reducible apply u_fldRing); assumption; (walk_at "ring"))
  | ((with_reducible apply u_textP); (walk_at "ring"))
  | ((with_reducible apply u_strRing); (walk_at "ring"))
  | ((with_reducible apply u_eqRing); (walk_at "ring"); (walk_at "ring"))
  | ((with_reducible apply u_isiRing); assumption; (walk_at "ring"))
  | ((with_reducible refine u_is_word ?_ ?_); omega; (intro _ _))
  | ((with_reducible refine u_turnings ?_ ?_); omega; (intro _ _ _ _ _))
  | with_reducible refine s_makeE ?_
  | with_reducible refine s_methE ?_)
local macro_rules | `(tactic| walk_at "go") => `(tactic| repeat (walk_at "st"))
local macro_rules | `(tactic| walk_at "exs") => `(tactic| first | exact Ex.rfl | assumption | (apply Ex.snoc (by assumption); walk_at "exs") | (apply Ex.snocW (by assumption); walk_at "exs"))
local macro_rules | `(tactic| walk_at "kind") => `(tactic| first | assumption | (apply KindAt.ex0 (by assumption); (walk_at "kind")) | (apply KindAt.exP (by assumption) (by assumption); (walk_at "kind")))
local macro_rules | `(tactic| walk_at "st") => `(tactic| first
  | with_reducible refine s_lenSet ?_
  | with_reducible refine s_drop ?_
  | with_reducible refine s_bm ?_
  | with_reducible refine s_notN ?_
  | with_reducible refine s_isN ?_
  | ((with_reducible apply s_tyL); (walk_at "hp"))
  | with_reducible refine s_enumT ?_
  | ((with_reducible apply s_enumTA); (walk_at "sqt"))
  | with_reducible refine s_lc2 ?_)
local macro_rules | `(tactic| walk_at "st") => `(tactic| first
  | with_reducible refine s_makeK ?_
  | with_reducible refine s_cmeth ?_
  | with_reducible refine s_cmethK ?_
  | with_reducible refine s_self ?_
  | ((with_reducible apply u_kSigns); (walk_at "kind")))
/-- Kind.signs: 0 self -/
def t_Kind_signs (K : PySem.W.Frag) : TS :=
  (tRet (tFld K (tVar 0) "letters"))
/-- Kind.pairs: 0 self -/
def t_Kind_pairs (K : PySem.W.Frag) : TS :=
  (tRet (tFld K (tVar 0) "allowed"))
/-- Kind.row: 0 self -/
def t_Kind_row (K : PySem.W.Frag) : TS :=
  (tRet (tTup (tCons (tFld K (tVar 0) "letters") (tCons (tFld K (tVar 0) "allowed") tNil))))
/-- Kind.__eq__: 0 self 1 other -/
def t_Kind_eq (K : PySem.W.Frag) : TS :=
  (tRet (tAndV (tCB (rIsi K) (tCons (tVar 1) (tCons (tC (.ref (He.ga K "Kind"))) tNil))) (tAndV (tOp rEq (tFld K (tVar 0) "letters") (tFld K (tVar 1) "letters")) (tOp (rEqD K) (tFld K (tVar 0) "allowed") (tFld K (tVar 1) "allowed")))))
/-- Kind.made: 0 cls 1 row 2 kind -/
def t_Kind_made (K : PySem.W.Frag) : TS :=
  (tSeq (tIfS (tNot (tB (tCall (sp_is_row K) [] E0 (tCons (tVar 1) (tCons (tC (.int 2)) tNil))))) tNever tNext)
  (tSeq (tAsg (tMakeL 0 (He.ga K "Kind") (sp_Kind_init K) [] E0 (tCons (tOp (rIxT K) (tVar 1) (tC (.int 0))) (tCons (tOp (rIxT K) (tVar 1) (tC (.int 1))) tNil))) (gName 2))
  (tSeq (tIfS (tTest (tOp (rNeD K) (tProp (He.ga K "Kind") (sp_Kind_row K) [] E0 (tVar 2)) (tVar 1))) tNever tNext)
  (tRet (tVar 2)))))
section
variable {K : PySem.W.Frag} {vs : List V} {H : Hp} {Q : VK} {E : XK}
variable (F : KindK K)
include F
theorem pure_Kind_signs (h : sp_Kind_signs K vs H Q E) : t_Kind_signs K (E1 Q) (start ["self"] vs) H := by
  obtain ⟨a, rfl, l, ps, hk, k⟩ := h
  show t_Kind_signs K (E1 Q) [some (.ref a)] H
  unfold t_Kind_signs
  walk_at "go"
  exact u_fldLetters F hk k
theorem pure_Kind_pairs (h : sp_Kind_pairs K vs H Q E) : t_Kind_pairs K (E1 Q) (start ["self"] vs) H := by
  obtain ⟨a, rfl, l, ps, hk, k⟩ := h
  show t_Kind_pairs K (E1 Q) [some (.ref a)] H
  unfold t_Kind_pairs
  walk_at "go"
  exact u_fldAllowed F hk k
theorem pure_Kind_row (h : sp_Kind_row K vs H Q E) : t_Kind_row K (E1 Q) (start ["self"] vs) H := by
  obtain ⟨a, rfl, l, ps, hk, k⟩ := h
  show t_Kind_row K (E1 Q) [some (.ref a)] H
  unfold t_Kind_row
  walk_at "go"
  refine u_fldLetters F hk ?_
  walk_at "go"
  refine u_fldAllowed F hk fun t ht => ?_
  walk_at "go"
  rename_i q H1 n1 e1 h1
  exact k q t H1 n1 e1 h1 (e1.sqT (by simp) ht)
theorem pure_Kind_eq (h : sp_Kind_eq K vs H Q E) : t_Kind_eq K (E1 Q) (start ["self", "other"] vs) H := by
  obtain ⟨a, v, rfl, l, ps, hk, h⟩ := h
  show t_Kind_eq K (E1 Q) [some (.ref a), some v] H
  unfold t_Kind_eq
  walk_at "go"
  rcases h with ⟨b, l', ps', rfl, hb, k⟩ | ⟨n, hn, k⟩
  · refine u_isiKK F hb.1 ?_
    walk_at "go"
    refine u_fldLetters F hk.1 ?_
    walk_at "go"
    refine u_fldLetters F hb.1 ?_
    walk_at "go"
    refine s_2 (fun h1 => ?_) (fun h1 => ?_)
    · have h1 := of_decide_eq_true h1
      walk_at "go"
      refine u_fldAllowed F hk.1 fun t ht => ?_
      walk_at "go"
      refine u_fldAllowed F hb.1 fun t' ht' => ?_
      walk_at "go"
      refine s_eqT1 ht ht' hk.2.2 hb.2.2 ?_
      have e : decide (ps = ps') = decide (l = l' ∧ ps = ps') := by simp [h1]
      rw [e]
      exact k
    · have h1 := of_decide_eq_false h1
      have e : false = decide (l = l' ∧ ps = ps') := by simp [h1]
      rw [e]
      exact k
  · refine u_isiNK F hn ?_
    walk_at "go"
    exact k
theorem pure_Kind_made (h : sp_Kind_made K vs H Q E) : t_Kind_made K (E1 Q) (start ["cls", "row", "kind"] vs) H := by
  obtain ⟨q, rfl, l, ps, ⟨t, hq, ht⟩, ⟨g1, g2, g3, g4, g5⟩, k⟩ := h
  show t_Kind_made K (E1 Q) [some (.ref (He.ga K "Kind")), some (.ref q), none] H
  unfold t_Kind_made
  walk_at "go"
  refine u_row hq ?_
  walk_at "go"
  refine s_nFd rfl ?_
  walk_at "go"
  refine u_makeKindL ?_ ?_
  · exact rfl
  walk_at "go"
  refine u_makeKind (s := l) (v := .ref t) (ps := ps) rfl g1 (.inr ⟨t, rfl, ht, g3, g5⟩) fun x H1 n1 e1 hk => ?_
  rw [g2, g4] at hk
  walk_at "go"
  refine u_kRow hk fun q' t' H2 n2 e2 h2 ht2 => ?_
  walk_at "go"
  refine s_neRow (SqT.of h2) ht2 (by walk_at "sqt") (t' := t) (by walk_at "sqt") (fun c hc => let_plain (isWord_in g1.1 c hc)) (fun p hp c hc => let_plain (isWord_in g1.1 c ((g3.2 p hp).2 c hc))) ?_
  walk_at "go"
  exact k x H2 n1 (e1.trans e2) (hk.ex0 e2)
end
end WB
namespace WB
open PySem PySem.Spec PyProof.Rows L2
def sp_law_kind_is (K : PySem.W.Frag) : Sp := fun vs H Q _ => ∃ (x : Addr) (s : List Nat) (p : Addr), vs = [.ref x, vS s, .ref p] ∧ ∃ ps : List (List Nat), goodS s ∧ goodP s ps ∧ ps.length < 64 ∧ H p = some (.lst (ps.map vS)) ∧ KindAt K H x (sgn s) (srt ps) ∧ ∀ H', Ex [] H H' → Q (.bl true) H'
def sp_law_right (K : PySem.W.Frag) : Sp := fun vs H Q _ => ∃ a : Addr, vs = [.ref a] ∧ PoolAt H a ∧ ∀ H', Ex [a] H H' → Q (.bl true) H'
section
variable {K : PySem.W.Frag} {H : Hp} {Q : VK} {E : XK} {a x p : Addr} {s : List Nat} {ps : List (List Nat)}
theorem u_kind_is (hs : goodS s) (hg : goodP s ps) (hl : ps.length < 64) (hp : H p = some (.lst (ps.map vS))) (hk : KindAt K H x (sgn s) (srt ps)) (k : ∀ H', Ex [] H H' → Q (.bl true) H') : sp_law_kind_is K ([.ref x, vS s, .ref p] ++ []) H Q E := ⟨_, _, _, rfl, _, hs, hg, hl, hp, hk, k⟩
theorem s_eqB {b c : Bool} (k : Q (.bl (b == c)) H) : rEq (.bl b) (.bl c) H Q := ⟨rfl, by
  have : decide (V.bl b = V.bl c) = (b == c) := by cases b <;> cases c <;> rfl
  rw [this]; exact k⟩
/-- what told and due are -/
theorem s_eqTold {q r t1 t2 u1 u2 v1 v2 : Addr} {l : List Nat} (h1 : SqL K H q [vS l, .ref t1, .ref u1]) (h2 : SqL K H r [vS l, .ref t2, .ref u2]) (a1 : SqT K H t1 (ps.map vS)) (a2 : SqT K H t2 (ps.map vS)) (b1 : SqT K H u1 [vS l, .ref v1]) (b2 : SqT K H u2 [vS l, .ref v2]) (c1 : SqT K H v1 (ps.map vS)) (c2 : SqT K H v2 (ps.map vS))
    (hl : plain l) (hp : ∀ p ∈ ps, plain p) (k : Q (.bl true) H) : rEqD K (.ref q) (.ref r) H Q := by
  have sh : SeqAt.shaped (.list [dS l, dT1 ps, rowD l ps]) = true := by
    unfold SeqAt.shaped
    have hr := Bool.and_eq_true_iff.mp (shaped_row hl hp)
    refine Bool.and_eq_true_iff.mpr ⟨?_, decide_eq_true ?_⟩
    · rw [PyData.canLay0]
      simp only [PyData.canLayAll0, lay_S hl, lay_T1 hp, hr.1, Bool.and_self]
    · have h1 := dep_T1 ps
      have h2 : PyData.depth (dS l) = 0 := by simp [dS, PyData.depth]
      rw [PyData.depth]
      simp only [PyData.depthAll, rowD, PyData.depth]
      omega
  refine ⟨.list [dS l, dT1 ps, rowD l ps], .list [dS l, dT1 ps, rowD l ps], .lst h1 (.cons (.str _) (.cons (dp_T1 a1) (.cons (dp_row b1 c1) .nil))), .lst h2 (.cons (.str _) (.cons (dp_T1 a2) (.cons (dp_row b2 c2) .nil))), sh, sh, ?_⟩
  rw [SeqAt.eqv_refl _ (Bool.and_eq_true_iff.mp sh).1]
  exact k
end
/-! ### plain -/
theorem fm_left {α β : Type} {f g : α → List β} : ∀ l : List α, (∀ a ∈ l, (f a).Perm (g a)) → (l.flatMap f).Perm (l.flatMap g)
  | [], _ => List.Perm.refl _
  | a :: l, h => by
    rw [List.flatMap_cons, List.flatMap_cons]
    exact (h a List.mem_cons_self).append (fm_left l fun b hb => h b (List.mem_cons_of_mem _ hb))
theorem perm_of_sub {α : Type} [DecidableEq α] : ∀ (ps qs : List α), ps.Nodup → (∀ p ∈ ps, p ∈ qs) → qs.length ≤ ps.length → ps.Perm qs
  | [], qs, _, _, hl => by
    have : qs = [] := List.length_eq_zero_iff.mp (by simpa using hl)
    rw [this]
  | x :: ps, qs, hn, hs, hl => by
    obtain ⟨h1, h2⟩ := List.nodup_cons.mp hn
    have hx : x ∈ qs := hs x List.mem_cons_self
    have hp := List.perm_cons_erase hx
    refine (List.Perm.cons x (perm_of_sub ps (qs.erase x) h2 (fun p hp => ?_) ?_)).trans hp.symm
    · have ne : p ≠ x := fun e => h1 (by rw [← e]; exact hp)
      exact (List.mem_erase_of_ne ne).mpr (hs p (List.mem_cons_of_mem _ hp))
    · have := hp.length_eq
      rw [List.length_cons] at this hl
      omega
theorem prs_perm {s t : List Nat} (h : s.Perm t) : (prs s).Perm (prs t) := by
  unfold prs
  have h1 : (s.flatMap fun a => s.map fun b => [a, b]).Perm (t.flatMap fun a => s.map fun b => [a, b]) := List.Perm.flatMap_right _ h
  refine h1.trans ?_
  exact fm_left t fun a _ => h.map _
/-- as many as all: all -/
theorem all_iff {s : List Nat} {ps : List (List Nat)} (hs : goodS s) (hg : goodP s ps) : (srt (prs s) = srt ps) ↔ ps.length = s.length * s.length := by
  constructor
  · intro h
    have := congrArg List.length h
    rw [srt_len, srt_len, prs_len] at this
    exact this.symm
  · intro h
    refine (srt_of_perm ?_).symm
    have hsub : ps ⊆ prs s := fun p hp => by
      have := hg.2 p hp
      match p, this.1, this.2 with
      | [a, b], _, h => exact mem_prs.mpr ⟨a, h a (by simp), b, h b (by simp), rfl⟩
    exact perm_of_sub ps (prs s) hg.1 (fun p hp => hsub hp) (by rw [prs_len, h]; exact Nat.le_refl _)
end WB
namespace WB
open PySem PySem.Spec PyProof.Rows L2
/-- over a list, those that pass, each by its value; nothing changes -/
theorem lc_fm8 {K : PySem.W.Frag} {H : Hp} {Q : VK} {b : Addr} {ls : List (List Nat)} {j : Nat} {tt : TT} {te : TE} {σ : St} (hq : SqL K H b (ls.map vS)) (hn : ls.length ≤ 100000) (pr : List Nat → Bool) (val : List Nat → V)
    (h : ∀ (x : List Nat) (H1 : Hp) (C1 : VK) (C0 : Hp → Prop), x ∈ ls → Ex [] H H1 → (∀ H2, Ex [] H1 H2 → pr x = true → C1 (val x) H2) → (∀ H2, Ex [] H1 H2 → pr x = false → C0 H2) →
      tt ((wipe σ [j]).set j (some (vS x))) H1 fun b H2 => if b = true then te ((wipe σ [j]).set j (some (vS x))) H2 C1 else C0 H2)
    (k : ∀ D H', H D = none → Ex [] H H' → H' D = some (.lst ((ls.filter pr).map val)) → Q (.ref D) H') : LcW (Itl K b) (gName j) tt te [j] σ H Q := by
  refine lc_run (walk_list (xs := ls.map vS)) (by rw [List.length_map]; exact hn) [] (fun _ => True) (fun i acc _ => acc = ((ls.take i).filter pr).map val) (by simp) trivial (by simp) (fun _ _ _ _ _ => trivial) (fun _ _ _ _ _ _ h => h) (fun H1 e => e.sqL (by simp) hq) ?_ ?_
  · rintro i acc x H1 H2 C1 C0 hi e _ rfl ⟨rfl, hx⟩ k1 k0
    rw [List.length_map] at hi
    rw [List.getElem?_map, List.getElem?_eq_getElem hi] at hx
    cases hx
    refine ⟨wipe1 _ _ _, ?_⟩
    refine h ls[i] _ C1 C0 (List.getElem_mem hi) e (fun H5 e5 hp => k1 _ H5 e5 trivial ?_) (fun H5 e5 hp => k0 H5 e5 trivial ?_)
    · rw [List.take_add_one, List.getElem?_eq_getElem hi, List.filter_append, List.map_append]
      simp [hp]
    · rw [List.take_add_one, List.getElem?_eq_getElem hi, List.filter_append, List.map_append]
      simp [hp]
  · rintro D H' ys hD e _ hd _ rfl
    rw [List.length_map, List.take_length] at hd
    exact k D H' hD e hd
theorem cutpt {T : TE} {σ : St} {H : Hp} {Q : VK} (P : V → Hp → Prop) (h1 : ∀ Q' : VK, (∀ v G, P v G → Q' v G) → T σ H Q') (h2 : ∀ v G, P v G → Q v G) : T σ H Q := h1 Q h2
theorem cut_last {l : List Nat} {n : Nat} (h0 : 0 < n) : cut l (some (-(n : Int))) none = l.drop (l.length - n) := by
  unfold cut
  have e : HT.sIx l.length 0 (some (-(n : Int))) = l.length - n := by
    show (if -(n : Int) < 0 then (-(n : Int) + (l.length : Int)).toNat else min (-(n : Int)).toNat l.length) = _
    rw [if_pos (by omega)]
    omega
  have e2 : HT.sIx l.length l.length none = l.length := rfl
  rw [e, e2, List.take_of_length_le (by simp)]
theorem cutV_but {xs : List V} : cutV xs none (some (-1)) = xs.dropLast := by
  unfold cutV
  have e : HT.sIx xs.length xs.length (some (-1)) = xs.length - 1 := by
    show (if (-1 : Int) < 0 then (-1 + (xs.length : Int)).toNat else min (-1 : Int).toNat xs.length) = _
    rw [if_pos (by omega)]
    omega
  have e2 : HT.sIx xs.length 0 none = 0 := rfl
  rw [e, e2, List.dropLast_eq_take]
  simp
theorem filter_out (s : List Nat) : (LET.length - s.length) ≤ (LET.filter fun c => !decide (c ∈ s)).length := by
  have h : ∀ (s L : List Nat), L.Nodup → L.length - s.length ≤ (L.filter fun c => !decide (c ∈ s)).length := by
    intro s
    induction s with
    | nil => intro L _; rw [List.filter_eq_self.mpr (by simp)]; simp
    | cons a s ih =>
      intro L hn
      have h1 := ih L hn
      have h2 : (L.filter fun c => !decide (c ∈ a :: s)) = (L.filter fun c => !decide (c ∈ s)).filter fun c => !decide (c = a) := by
        rw [List.filter_filter]
        refine List.filter_congr fun c _ => ?_
        by_cases h1 : c = a <;> by_cases h2 : c ∈ s <;> simp [h1, h2]
      have h3 : ∀ M : List Nat, M.Nodup → M.length ≤ (M.filter fun c => !decide (c = a)).length + 1 := by
        intro M
        induction M with
        | nil => intro _; simp
        | cons b M ihM =>
          intro hM
          obtain ⟨g1, g2⟩ := List.nodup_cons.mp hM
          by_cases hb : b = a
          · subst hb
            have : (M.filter fun c => !decide (c = b)) = M := List.filter_eq_self.mpr fun c hc => by
              have : c ≠ b := fun e => g1 (e ▸ hc)
              simp [this]
            rw [List.filter_cons_of_neg (by simp), this]
            simp
          · rw [List.filter_cons_of_pos (by simp [hb])]
            have := ihM g2
            simp only [List.length_cons]
            omega
      have h4 := h3 _ (hn.filter (fun c => !decide (c ∈ s)))
      rw [h2]
      simp only [List.length_cons]
      omega
  exact h s LET (by decide +kernel)
theorem LET26 : LET.length = 26 := by decide +kernel
/-- the letter set with one more mark -/
theorem goodS_more {s : List Nat} {m : Nat} (hs : goodS s) (hm : m ∈ LET) (hn : m ∉ s) : goodS ((s ++ [m]).drop ((s ++ [m]).length - 4)) := by
  have hl := (isWord_len hs.1).1
  have h4 := hs.2.1
  refine ⟨isWord_mk ?_ ?_ fun c hc => ?_, ?_, ?_⟩
  · simp; omega
  · simp; omega
  · rcases List.mem_append.mp (List.mem_of_mem_drop hc) with h | h
    · exact isWord_in hs.1 c h
    · rw [List.mem_singleton.mp h]; exact hm
  · simp; omega
  · refine (List.Sublist.nodup (List.drop_sublist _ _)) ?_
    refine List.nodup_append.mpr ⟨hs.2.2, by simp, fun a ha b hb e => ?_⟩
    rw [List.mem_singleton.mp hb] at e
    exact hn (e ▸ ha)
theorem mem_more {s : List Nat} {m : Nat} : m ∈ (s ++ [m]).drop ((s ++ [m]).length - 4) := by
  rw [List.drop_append_of_le_length (by simp)]
  simp
theorem sgn_more {s : List Nat} {m : Nat} (hn : m ∉ s) : sgn ((s ++ [m]).drop ((s ++ [m]).length - 4)) ≠ sgn s := fun e => by
  have h := (sgn_perm _).mem_iff.mpr (mem_more (s := s) (m := m))
  rw [e] at h
  exact hn ((sgn_perm s).mem_iff.mp h)
theorem goodP_more {c0 m : Nat} {r s : List Nat} {ps : List (List Nat)} (e0 : s = c0 :: r) (h4 : s.length ≤ 4) (hg : goodP s ps) : goodP ((s ++ [m]).drop ((s ++ [m]).length - 4)) (ps.filter fun x => !decide (c0 ∈ x)) := by
  subst e0
  refine ⟨hg.1.filter _, fun p hp => ?_⟩
  obtain ⟨h1, h2⟩ := List.mem_filter.mp hp
  have hc : c0 ∉ p := by simpa using h2
  refine ⟨(hg.2 p h1).1, fun c hcp => ?_⟩
  have hcs := (hg.2 p h1).2 c hcp
  rcases List.mem_cons.mp hcs with e | e
  · exact absurd (e ▸ hcp) hc
  · have hl : ((c0 :: r) ++ [m]).length - 4 = 0 ∨ ((c0 :: r) ++ [m]).length - 4 = 1 := by
      simp at h4 ⊢; omega
    rcases hl with z | z
    · rw [z]; simp [e]
    · rw [z]; simp [e]
end WB
namespace WB
open PySem PySem.Spec PyProof.Rows L2
def sTuple : List Nat := [116, 117, 112, 108, 101]
def sList : List Nat := [108, 105, 115, 116]
def sTruth : List Nat := [116, 114, 117, 116, 104]
def sPlain : List Nat := [112, 108, 97, 105, 110]
/-- what has no parts -/
def Scal (v : V) (d : PyData) : Prop := (v = .non ∧ d = .none) ∨ (∃ b, v = .bl b ∧ d = .bool b) ∨ (∃ i, v = .int i ∧ d = .int i) ∨ (∃ l, plain l ∧ v = vS l ∧ d = dS l)
/-- v holds the data d, n deep -/
def Dd (K : PySem.W.Frag) (H : Hp) : Nat → V → PyData → Prop
  | 0, v, d => Scal v d
  | n + 1, v, d => Scal v d ∨ (∃ a xs ds, v = .ref a ∧ d = .tuple ds ∧ SqT K H a xs ∧ xs.length ≤ 1000 ∧ ds.length = xs.length ∧ ∀ (i : Nat) x e, xs[i]? = some x → ds[i]? = some e → Dd K H n x e) ∨
    (∃ a xs ds, v = .ref a ∧ d = .list ds ∧ H a = some (.lst xs) ∧ xs.length ≤ 1000 ∧ ds.length = xs.length ∧ ∀ (i : Nat) x e, xs[i]? = some x → ds[i]? = some e → Dd K H n x e)
/-- lists of lists, all at addresses F -/
def Fr (F : Addr → Prop) (H : Hp) : Nat → V → PyData → Prop
  | 0, v, d => Scal v d
  | n + 1, v, d => Scal v d ∨ (∃ a xs ds, v = .ref a ∧ d = .list ds ∧ F a ∧ H a = some (.lst xs) ∧ ds.length = xs.length ∧ ∀ (i : Nat) x e, xs[i]? = some x → ds[i]? = some e → Fr F H n x e)
def faceD : Nat → PyData → PyData
  | _, .bool b => .list [dS sTruth, .bool b]
  | n + 1, .tuple ds => .list (dS sTuple :: ds.map (faceD n))
  | n + 1, .list ds => .list (dS sList :: ds.map (faceD n))
  | _, d => .list [dS sPlain, d]
def sp_law_face (K : PySem.W.Frag) : Nat → Sp
  | 0 => fun _ _ _ _ => False
  | n + 1 => fun vs H Q _ => ∃ v, vs = [v] ∧ ∃ d, Dd K H n v d ∧ ∀ r H', H r = none → Ex [] H H' → Fr (fun a => H a = none) H' (n + 1) (.ref r) (faceD n d) → Q (.ref r) H'
/-! ### of data -/
theorem Scal.dp {K : PySem.W.Frag} {H : Hp} {v : V} {d : PyData} (h : Scal v d) : Dp K H v d := by
  rcases h with ⟨rfl, rfl⟩ | ⟨b, rfl, rfl⟩ | ⟨i, rfl, rfl⟩ | ⟨l, _, rfl, rfl⟩
  · exact .non
  · exact .bl b
  · exact .int i
  · exact .str _
theorem dpAll_of {K : PySem.W.Frag} {H : Hp} : ∀ (xs : List V) (ds : List PyData), ds.length = xs.length → (∀ (i : Nat) x e, xs[i]? = some x → ds[i]? = some e → Dp K H x e) → DpAll K H xs ds
  | [], [], _, _ => .nil
  | x :: xs, d :: ds, hl, h => .cons (h 0 x d rfl rfl) (dpAll_of xs ds (by simpa using hl) fun i y e h1 h2 => h (i + 1) y e h1 h2)
theorem Fr.dp {K : PySem.W.Frag} {F : Addr → Prop} {H : Hp} : ∀ (n : Nat) (v : V) (d : PyData), Fr F H n v d → Dp K H v d
  | 0, _, _, h => Scal.dp h
  | n + 1, v, d, h => by
    rcases h with h | ⟨a, xs, ds, rfl, rfl, _, h1, hl, h2⟩
    · exact Scal.dp h
    · exact .lst (SqL.of h1) (dpAll_of xs ds hl fun i x e hx he => Fr.dp n x e (h2 i x e hx he))
theorem Fr.mono {F F' : Addr → Prop} {H H' : Hp} (hF : ∀ a, F a → F' a) (hh : ∀ a xs, F a → H a = some (.lst xs) → H' a = some (.lst xs)) : ∀ (n : Nat) (v : V) (d : PyData), Fr F H n v d → Fr F' H' n v d
  | 0, _, _, h => h
  | n + 1, v, d, h => by
    rcases h with h | ⟨a, xs, ds, rfl, rfl, f, h1, hl, h2⟩
    · exact .inl h
    · exact .inr ⟨a, xs, ds, rfl, rfl, hF a f, hh a xs f h1, hl, fun i x e hx he => Fr.mono hF hh n x e (h2 i x e hx he)⟩
theorem Dd.ex {K : PySem.W.Frag} {H H' : Hp} (e : Ex [] H H') : ∀ (n : Nat) (v : V) (d : PyData), Dd K H n v d → Dd K H' n v d
  | 0, _, _, h => h
  | n + 1, v, d, h => by
    rcases h with h | ⟨a, xs, ds, rfl, rfl, h1, hn, hl, h2⟩ | ⟨a, xs, ds, rfl, rfl, h1, hn, hl, h2⟩
    · exact .inl h
    · exact .inr (.inl ⟨a, xs, ds, rfl, rfl, e.sqT (by simp) h1, hn, hl, fun i x y hx hy => Dd.ex e n x y (h2 i x y hx hy)⟩)
    · exact .inr (.inr ⟨a, xs, ds, rfl, rfl, e.get0 h1, hn, hl, fun i x y hx hy => Dd.ex e n x y (h2 i x y hx hy)⟩)
theorem lay_all : ∀ {ds : List PyData}, (∀ e ∈ ds, PyData.canLay0 e = true) → PyData.canLayAll0 ds = true
  | [], _ => by simp [PyData.canLayAll0]
  | d :: ds, h => by
    rw [PyData.canLayAll0]
    exact Bool.and_eq_true_iff.mpr ⟨h d List.mem_cons_self, lay_all fun e he => h e (List.mem_cons_of_mem _ he)⟩
theorem dep_all {m : Nat} : ∀ {ds : List PyData}, (∀ e ∈ ds, PyData.depth e ≤ m) → PyData.depthAll ds ≤ m
  | [], _ => by simp [PyData.depthAll]
  | d :: ds, h => by
    rw [PyData.depthAll]
    exact Nat.max_le.mpr ⟨h d List.mem_cons_self, dep_all fun e he => h e (List.mem_cons_of_mem _ he)⟩
theorem lay_dS {l : List Nat} (h : plain l) : PyData.canLay0 (dS l) = true := by
  unfold dS
  rw [PyData.canLay0]
  exact strOk_S h
theorem dep_dS {l : List Nat} : PyData.depth (dS l) = 0 := by simp [dS, PyData.depth]
theorem scal_shape {v : V} {d : PyData} (h : Scal v d) : PyData.canLay0 d = true ∧ PyData.depth d = 0 := by
  rcases h with ⟨rfl, rfl⟩ | ⟨b, rfl, rfl⟩ | ⟨i, rfl, rfl⟩ | ⟨l, hl, rfl, rfl⟩
  · simp [PyData.canLay0, PyData.depth]
  · simp [PyData.canLay0, PyData.depth]
  · simp [PyData.canLay0, PyData.depth]
  · exact ⟨lay_dS hl, dep_dS⟩
theorem plain_tags : plain sTuple ∧ plain sList ∧ plain sTruth ∧ plain sPlain := by
  refine ⟨?_, ?_, ?_, ?_⟩ <;> (intro c hc; revert c; decide)
/-- the face of what has no parts -/
def tagOf : PyData → List Nat
  | .bool _ => sTruth
  | _ => sPlain
theorem face_scal {n : Nat} {v : V} {d : PyData} (h : Scal v d) : faceD n d = .list [dS (tagOf d), d] := by
  rcases h with ⟨rfl, rfl⟩ | ⟨b, rfl, rfl⟩ | ⟨i, rfl, rfl⟩ | ⟨l, hl, rfl, rfl⟩ <;> cases n <;> rfl
theorem mem_get {α : Type} {l : List α} {x : α} (h : x ∈ l) : ∃ i : Nat, l[i]? = some x := List.mem_iff_getElem?.mp h
theorem face_shape {K : PySem.W.Frag} {H : Hp} : ∀ (n : Nat) (v : V) (d : PyData), Dd K H n v d → PyData.canLay0 (faceD n d) = true ∧ PyData.depth (faceD n d) ≤ n + 1 := by
  have sc : ∀ (n : Nat) (v : V) (d : PyData), Scal v d → PyData.canLay0 (faceD n d) = true ∧ PyData.depth (faceD n d) ≤ n + 1 := by
    intro n v d h
    obtain ⟨h1, h2⟩ := scal_shape h
    have ht : plain (tagOf d) := by
      rcases h with ⟨rfl, rfl⟩ | ⟨b, rfl, rfl⟩ | ⟨i, rfl, rfl⟩ | ⟨l, hl, rfl, rfl⟩
      · exact plain_tags.2.2.2
      · exact plain_tags.2.2.1
      · exact plain_tags.2.2.2
      · exact plain_tags.2.2.2
    rw [face_scal h]
    constructor
    · rw [PyData.canLay0]
      refine lay_all fun e he => ?_
      rcases List.mem_cons.mp he with rfl | he
      · exact lay_dS ht
      · rw [List.mem_singleton.mp he]; exact h1
    · rw [PyData.depth]
      have : PyData.depthAll [dS (tagOf d), d] ≤ 0 := dep_all fun e he => by
        rcases List.mem_cons.mp he with rfl | he
        · rw [dep_dS]; exact Nat.le_refl _
        · rw [List.mem_singleton.mp he, h2]; exact Nat.le_refl _
      omega
  have parts : ∀ (n : Nat) (t : List Nat) (xs : List V) (ds : List PyData), plain t → ds.length = xs.length → (∀ (i : Nat) x e, xs[i]? = some x → ds[i]? = some e → PyData.canLay0 (faceD n e) = true ∧ PyData.depth (faceD n e) ≤ n + 1) →
      PyData.canLay0 (.list (dS t :: ds.map (faceD n))) = true ∧ PyData.depth (.list (dS t :: ds.map (faceD n))) ≤ n + 1 + 1 := by
    intro n t xs ds ht hl h
    have hz : ∀ e ∈ ds, PyData.canLay0 (faceD n e) = true ∧ PyData.depth (faceD n e) ≤ n + 1 := fun e he => by
      obtain ⟨i, hi⟩ := mem_get he
      have hlt : i < xs.length := by
        have := (List.getElem?_eq_some_iff.mp hi).1
        omega
      exact h i xs[i] e (List.getElem?_eq_getElem hlt) hi
    constructor
    · rw [PyData.canLay0]
      refine lay_all fun e he => ?_
      rcases List.mem_cons.mp he with rfl | he
      · exact lay_dS ht
      · obtain ⟨e', h', rfl⟩ := List.mem_map.mp he
        exact (hz e' h').1
    · rw [PyData.depth]
      have : PyData.depthAll (dS t :: ds.map (faceD n)) ≤ n + 1 := dep_all fun e he => by
        rcases List.mem_cons.mp he with rfl | he
        · rw [dep_dS]; exact Nat.zero_le _
        · obtain ⟨e', h', rfl⟩ := List.mem_map.mp he
          exact (hz e' h').2
      omega
  intro n
  induction n with
  | zero => exact fun v d h => sc 0 v d h
  | succ n ih =>
    intro v d h
    rcases h with h | ⟨a, xs, ds, rfl, rfl, h1, hn, hl, h2⟩ | ⟨a, xs, ds, rfl, rfl, h1, hn, hl, h2⟩
    · exact sc (n + 1) v d h
    · exact parts n sTuple xs ds plain_tags.1 hl fun i x e hx he => ih x e (h2 i x e hx he)
    · exact parts n sList xs ds plain_tags.2.1 hl fun i x e hx he => ih x e (h2 i x e hx he)
theorem face_shaped {K : PySem.W.Frag} {H : Hp} {n : Nat} {v : V} {d : PyData} (hn : n ≤ 20) (h : Dd K H n v d) : SeqAt.shaped (faceD n d) = true := by
  obtain ⟨h1, h2⟩ := face_shape n v d h
  unfold SeqAt.shaped
  exact Bool.and_eq_true_iff.mpr ⟨h1, decide_eq_true (by omega)⟩
section
variable {K : PySem.W.Frag} {H : Hp} {Q : VK} {E : XK}
theorem s_neFace {F F' : Addr → Prop} {n m m' : Nat} {x y : V} {d : PyData} (hs : SeqAt.shaped (faceD n d) = true) (h1 : Fr F H m x (faceD n d)) (h2 : Fr F' H m' y (faceD n d)) (k : Q (.bl false) H) : rNeD K x y H Q := by
  refine ⟨_, _, Fr.dp m x _ h1, Fr.dp m' y _ h2, hs, hs, ?_⟩
  rw [SeqAt.eqv_refl _ (Bool.and_eq_true_iff.mp hs).1]
  exact k
theorem s_eqFace {F F' : Addr → Prop} {n m m' : Nat} {x y : V} {d : PyData} (hs : SeqAt.shaped (faceD n d) = true) (h1 : Fr F H m x (faceD n d)) (h2 : Fr F' H m' y (faceD n d)) (k : Q (.bl true) H) : rEqD K x y H Q := by
  refine ⟨_, _, Fr.dp m x _ h1, Fr.dp m' y _ h2, hs, hs, ?_⟩
  rw [SeqAt.eqv_refl _ (Bool.and_eq_true_iff.mp hs).1]
  exact k
theorem u_face {n : Nat} {v : V} {d : PyData} (h : Dd K H n v d) (k : ∀ r H', H r = none → Ex [] H H' → Fr (fun a => H a = none) H' (n + 1) (.ref r) (faceD n d) → Q (.ref r) H') : sp_law_face K (n + 1) ([v] ++ []) H Q E := ⟨v, rfl, d, h, k⟩
/-- the faces of the parts -/
theorem lc_faces {J : It} {G : Hp → Prop} {xs : List V} {ds : List PyData} {n j : Nat} {σ : St} {E : XK} (w : Walk J xs.length G (YAt xs)) (hG : ∀ H1, Ex [] H H1 → G H1) (hn : xs.length ≤ 1000) (hj : j < σ.length) (hl : ds.length = xs.length)
    (hd : ∀ (i : Nat) x e, xs[i]? = some x → ds[i]? = some e → Dd K H n x e)
    (k : ∀ D H' ys, H D = none → Ex [] H H' → H' D = some (.lst ys) → ys.length = ds.length → (∀ (i : Nat) y e, ys[i]? = some y → ds[i]? = some e → Fr (fun a => H a = none ∧ a ≠ D) H' (n + 1) y (faceD n e)) → Q (.ref D) H') :
    LcW J (gName j) tYes (tCall (sp_law_face K (n + 1)) [] E (tCons (tVar j) tNil)) [j] σ H Q := by
  intro D hD
  refine lc_it w (fun i H1 => Ex [] H H1 ∧ ∃ ys, H1 D = some (.lst ys) ∧ ys.length = i ∧ ∀ (m : Nat) y e, ys[m]? = some y → ds[m]? = some e → Fr (fun a => H a = none ∧ a ≠ D) H1 (n + 1) y (faceD n e)) ⟨Ex.new hD, [], upd_same, rfl, by simp⟩ (fun i H1 _ h => hG H1 h.1) ?_ ?_
  · rintro i x H1 H2 hi ⟨e, ys, hy, hyl, hf⟩ ⟨rfl, hx⟩
    refine ⟨wipe1 _ _ _, ?_⟩
    refine s_yes ?_
    refine s_T rfl ?_
    refine s_call ?_
    refine s_cons ?_
    refine s_var (v := x) (by rw [List.getElem?_set_self (by simp [wipe]; exact hj)]) ?_
    refine s_nil ?_
    have hid : i < ds.length := by omega
    refine u_face (d := ds[i]) (Dd.ex e n x _ (hd i x _ hx (List.getElem?_eq_getElem hid))) fun r H5 hr e5 hfr => ?_
    have hDn : H2 D ≠ none := by rw [hy]; simp
    refine ⟨ys, e5.get0 hy, by rw [hyl]; exact Nat.lt_of_lt_of_le hi (Nat.le_trans hn (by decide)), ?_, ys ++ [.ref r], upd_same, by simp [hyl], ?_⟩
    · intro b o nb hb
      rw [upd_ne (ne_of_none hb hD)]
      exact e5 b o nb (e b o nb hb)
    · intro m y e' hm he
      by_cases hmi : m < i
      · rw [List.getElem?_append_left (by omega)] at hm
        refine Fr.mono (fun a h => h) (fun a zs fa ha => ?_) _ _ _ (hf m y e' hm he)
        rw [upd_ne fa.2]
        exact e5.get0 ha
      · have hmi' : m = i := by
          have := (List.getElem?_eq_some_iff.mp hm).1
          simp at this
          omega
        subst hmi'
        rw [List.getElem?_append_right (by omega)] at hm
        have : y = .ref r := by
          simp [hyl] at hm
          exact hm.symm
        subst this
        rw [List.getElem?_eq_getElem hid] at he
        cases he
        refine Fr.mono (fun a h => ⟨e.free h, fun z => hDn (z ▸ h)⟩) (fun a zs fa ha => ?_) _ _ _ hfr
        rw [upd_ne (show a ≠ D from fun z => hDn (z ▸ fa))]
        exact ha
  · rintro H1 ⟨e, ys, hy, hyl, hf⟩
    exact k D H1 ys hD e hy (by omega) hf
end
end WB
namespace WB
open PySem PySem.Spec PyProof.Rows L2
theorem lit_116_117_112_108_101 : ("tuple" : Str) = S [116, 117, 112, 108, 101] := by decide +kernel
theorem lit_108_105_115_116 : ("list" : Str) = S [108, 105, 115, 116] := by decide +kernel
theorem lit_100_105_99_116 : ("dict" : Str) = S [100, 105, 99, 116] := by decide +kernel
theorem lit_116_114_117_116_104 : ("truth" : Str) = S [116, 114, 117, 116, 104] := by decide +kernel
theorem lit_112_108_97_105_110 : ("plain" : Str) = S [112, 108, 97, 105, 110] := by decide +kernel
local macro_rules | `(tactic| walk_at "lit") => `(tactic| first | exact lit_116_117_112_108_101 | exact lit_108_105_115_116 | exact lit_100_105_99_116 | exact lit_116_114_117_116_104 | exact lit_112_108_97_105_110)
local macro_rules | `(tactic| walk_at "lit") => `(tactic| first | exact lit_abc | exact lit_empty)
local macro_rules | `(tactic| walk_at "nm") => `(tactic| focus first | exact List.not_mem_nil | (simp only [List.mem_singleton]; first | assumption | (exact Ne.symm (by assumption)) | (intro hz; subst hz; simp_all; done)))
local macro_rules | `(tactic| walk_at "hp") => `(tactic| first | assumption | (apply Ex.get0 (by assumption); walk_at "hp") | (apply Ex.get (by assumption); (walk_at "nm"); (walk_at "hp")))
local macro_rules | `(tactic| walk_at "sq") => `(tactic| first | assumption | (apply SqL.of; walk_at "hp") | (apply Ex.sqL (by assumption); (walk_at "nm"); (walk_at "sq")))
local macro_rules | `(tactic| walk_at "sqt") => `(tactic| first | assumption | (apply SqT.of; walk_at "hp") | (apply Ex.sqT (by assumption); (walk_at "nm"); (walk_at "sqt")))
local macro_rules | `(tactic| walk_at "sz") => `(tactic| focus ((with_reducible refine Nat.le_trans (m := 100000) ?_ (by decide)); first | omega | (simp; done) | (simp; omega)))
local macro_rules | `(tactic| walk_at "mul") => `(tactic| first | exact Or.inr ⟨by omega, by omega⟩ | exact Or.inl ⟨by omega, by omega⟩)
local macro_rules | `(tactic| walk_at "pool") => `(tactic| first | assumption | (apply PoolAt.ex (by assumption); (walk_at "nm"); (walk_at "pool")))
local macro_rules | `(tactic| walk_at "ring") => `(tactic| first | assumption | (apply RingAt.ex (by assumption); (walk_at "nm"); (walk_at "ring")))
local macro_rules | `(tactic| walk_at "st") => `(tactic| first
  | with_reducible refine s_seq ?_
  | with_reducible refine s_asg ?_
  | with_reducible refine s_gName ?_
  | with_reducible refine s_ret ?_
  | with_reducible refine s_ifS ?_
  | with_reducible refine s_next ?_
  | with_reducible refine s_op ?_
  | ((with_reducible apply s_var); exact rfl)
  | ((with_reducible apply s_cS); (walk_at "lit"))
  | with_reducible refine s_c ?_
  | with_reducible refine s_cb ?_
  | with_reducible refine s_cons ?_
  | with_reducible refine s_nil ?_
  | with_reducible refine s_un ?_
  | with_reducible refine s_call ?_
  | with_reducible refine s_test ?_
  | with_reducible refine s_tB ?_
  | with_reducible refine s_blQ ?_
  | with_reducible refine s_not ?_
  | with_reducible refine s_and ?_
  | with_reducible refine s_or ?_
  | with_reducible refine s_andV ?_
  | with_reducible refine s_orV ?_
  | with_reducible refine s_notV ?_
  | with_reducible refine s_ifE ?_
  | with_reducible refine s_chain ?_
  | ((with_reducible refine s_T ?_ ?_); (with_reducible exact rfl))
  | with_reducible refine s_nT ?_
  | with_reducible refine s_nF ?_
  | ((with_reducible refine s_F ?_ ?_); (with_reducible exact rfl))
  | ((with_reducible refine s_T ?_ ?_); assumption)
  | ((with_reducible refine s_F ?_ ?_); assumption)
  | ((with_reducible refine s_nB ?_ ?_); assumption)
  | ((with_reducible refine s_nA ?_ ?_); assumption)
  | ((with_reducible refine s_Td ?_ ?_); omega)
  | ((with_reducible refine s_Fd ?_ ?_); omega)
  | ((with_reducible refine s_nTd ?_ ?_); omega)
  | ((with_reducible refine s_nFd ?_ ?_); omega)
  | with_reducible refine s_sfld ?_
  | with_reducible refine s_addI ?_
  | with_reducible refine s_subI ?_
  | ((with_reducible refine s_mulI ?_ ?_); (walk_at "mul"))
  | ((with_reducible refine s_divI ?_ ?_); exact ⟨by omega, by omega⟩)
  | ((with_reducible refine s_modI ?_ ?_); omega)
  | ((with_reducible refine s_powI ?_ ?_); exact ⟨by decide, by decide, by decide⟩)
  | with_reducible refine s_ltI ?_
  | with_reducible refine s_leI ?_
  | with_reducible refine s_gtI ?_
  | with_reducible refine s_geI ?_
  | with_reducible refine s_negI ?_
  | with_reducible refine s_absI ?_
  | with_reducible refine s_intI ?_
  | with_reducible refine s_min2 ?_
  | with_reducible refine s_max2 ?_
  | with_reducible refine s_eqI ?_
  | with_reducible refine s_neI ?_
  | with_reducible refine s_eqS ?_
  | with_reducible refine s_neS ?_
  | with_reducible refine s_inSg ?_
  | with_reducible refine s_notInSg ?_
  | ((with_reducible refine s_addS ?_ ?_); (walk_at "sz"))
  | ((with_reducible refine s_lenS ?_ ?_); (walk_at "sz"))
  | ((with_reducible apply s_lenL); (walk_at "sq"))
  | ((with_reducible apply s_lenT); (walk_at "sqt"))
  | ((with_reducible apply s_ixL); (walk_at "sq"); exact rfl)
  | ((with_reducible apply s_ixT); (walk_at "sqt"); exact rfl)
  | with_reducible refine s_gSub ?_
  | ((with_reducible apply s_setL); (walk_at "hp"); (exact rfl); (intro _ _ _))
  | ((with_reducible refine s_alloc ?_ ?_); (walk_at "sz"); (intro _ _ _ _ _))
  | ((with_reducible refine s_divmod ?_ ?_); (exact ⟨by omega, PyProof.noPylong_small (by omega)⟩); (intro _ _ _ _ _))
  | ((with_reducible apply s_gTup); (walk_at "sqt"); (exact rfl))
  | ((with_reducible apply s_gLst); (walk_at "sq"); (exact rfl))
  | with_reducible refine s_gCons ?_
  | with_reducible refine s_gNil ?_
  | with_reducible refine s_lc ?_
  | ((with_reducible apply s_cat); (walk_at "hp"); (walk_at "hp"); (walk_at "sz"); (intro _ _ _ _ _))
  | ((with_reducible apply s_slL); (walk_at "sq"); (intro _ _ _ _ _))
  | with_reducible refine s_for ?_
  | with_reducible refine s_rng1 ?_
  | ((with_reducible refine s_rng1i ?_ ?_); (constructor <;> omega))
  | with_reducible refine s_rng2 ?_
  | ((with_reducible refine s_rng2i ?_ ?_); (refine ⟨?_, ?_, ?_, ?_⟩ <;> omega))
  | with_reducible refine s_iStr ?_
  | with_reducible refine s_iStrS ?_
  | with_reducible refine s_iList ?_
  | ((with_reducible apply s_iListA); (walk_at "sq"))
  | with_reducible refine s_iTup ?_
  | ((with_reducible apply s_iTupA); (walk_at "sqt"))
  | with_reducible refine s_sl ?_
  | with_reducible refine s_noPart ?_
  | with_reducible refine s_part ?_
  | with_reducible refine s_int1 ?_
  | ((with_reducible refine s_slS ?_ ?_); (walk_at "sz"))
  | with_reducible refine s_tup ?_
  | with_reducible refine s_lst ?_
  | with_reducible refine s_par ?_
  | with_reducible refine s_pair ?_
  | with_reducible refine s_M1 ?_
  | with_reducible refine s_isStr ?_
  | with_reducible refine s_revS ?_
  | ((with_reducible refine s_revS1 ?_ ?_); (walk_at "sz"))
  | with_reducible refine s_fldE ?_
  | with_reducible refine s_propE ?_
  | ((with_reducible refine u_draw ?_ ?_ ?_ ?_); omega; omega; (walk_at "pool"); (intro _ _ _ _ _ _))
  | ((with_reducible refine u_pool ?_); (intro _ _ _ _ _))
  | with_reducible refine u_is_integer ?_
  | with_reducible refine s_isiII ?_
  | with_reducible refine s_isiIB ?_
  | with_reducible refine s_isiSS ?_
  | ((with_reducible apply u_fldRing); assumption; (walk_at "ring"))
  | ((with_reducible apply u_textP); (walk_at "ring"))
  | ((with_reducible apply u_strRing); (walk_at "ring"))
  | ((with_reducible apply u_eqRing); (walk_at "ring"); (walk_at "ring"))
  | ((with_reducible apply u_isiRing); assumption; (walk_at "ring"))
  | ((with_reducible refine u_is_word ?_ ?_); omega; (intro _ _))
  | ((with_reducible refine u_turnings ?_ ?_); omega; (intro _ _ _ _ _))
  | with_reducible refine s_makeE ?_
  | with_reducible refine s_methE ?_)
local macro_rules | `(tactic| walk_at "go") => `(tactic| repeat (walk_at "st"))
local macro_rules | `(tactic| walk_at "exs") => `(tactic| first | exact Ex.rfl | assumption | (apply Ex.snoc (by assumption); walk_at "exs") | (apply Ex.snocW (by assumption); walk_at "exs"))
local macro_rules | `(tactic| walk_at "kind") => `(tactic| first | assumption | (apply KindAt.ex0 (by assumption); (walk_at "kind")) | (apply KindAt.exP (by assumption) (by assumption); (walk_at "kind")))
local macro_rules | `(tactic| walk_at "st") => `(tactic| first
  | with_reducible refine s_lenSet ?_
  | with_reducible refine s_drop ?_
  | with_reducible refine s_bm ?_
  | with_reducible refine s_notN ?_
  | with_reducible refine s_isN ?_
  | ((with_reducible apply s_tyL); (walk_at "hp"))
  | with_reducible refine s_enumT ?_
  | ((with_reducible apply s_enumTA); (walk_at "sqt"))
  | with_reducible refine s_lc2 ?_)
/-- _law_face: 0 _law_thing 1 _law_part 2 _law_key -/
def t_law_face (K : PySem.W.Frag) (n : Nat) : TS :=
  (tSeq (tIfS (tB (tCB (rIsi K) (tCons (tVar 0) (tCons (tC (.ty "tuple")) tNil)))) (tRet (tOp rCat (tLst (tCons (tC (.str "tuple")) tNil)) (tLc (iTup K (tVar 0)) (gName 1) tYes (tCall (sp_law_face K n) [] E0 (tCons (tVar 1) tNil)) [1]))) tNext)
  (tSeq (tIfS (tB (tCB (rIsi K) (tCons (tVar 0) (tCons (tC (.ty "list")) tNil)))) (tRet (tOp rCat (tLst (tCons (tC (.str "list")) tNil)) (tLc (iList K (tVar 0)) (gName 1) tYes (tCall (sp_law_face K n) [] E0 (tCons (tVar 1) tNil)) [1]))) tNext)
  (tSeq (tIfS (tB (tCB (rIsi K) (tCons (tVar 0) (tCons (tC (.ty "dict")) tNil)))) (tRet (tOp rCat (tLst (tCons (tC (.str "dict")) tNil)) (tLc (iKeys (tVar 0)) (gName 2) tYes (tLst (tCons (tCall (sp_law_face K n) [] E0 (tCons (tVar 2) tNil)) (tCons (tCall (sp_law_face K n) [] E0 (tCons (tDGet (tVar 0) (tVar 2)) tNil)) tNil))) [2]))) tNext)
  (tRet (tLst (tCons (tIf (tB (tCB (rIsi K) (tCons (tVar 0) (tCons (tC (.ty "bool")) tNil)))) (tC (.str "truth")) (tC (.str "plain"))) (tCons (tVar 0) tNil)))))))
section
variable {K : PySem.W.Frag} {vs : List V} {H : Hp} {Q : VK} {E : XK}
theorem fr_pair {F : Addr → Prop} {n : Nat} {r : Addr} {v : V} {d : PyData} (hs : Scal v d) (f : F r) (h : H r = some (.lst [vS (tagOf d), v])) : Fr F H (n + 1) (.ref r) (faceD n d) := by
  rw [face_scal hs]
  have ht : plain (tagOf d) := by
    rcases hs with ⟨rfl, rfl⟩ | ⟨b, rfl, rfl⟩ | ⟨i, rfl, rfl⟩ | ⟨l, hl, rfl, rfl⟩
    · exact plain_tags.2.2.2
    · exact plain_tags.2.2.1
    · exact plain_tags.2.2.2
    · exact plain_tags.2.2.2
  have sc : ∀ {x e}, Scal x e → Fr F H n x e := fun {x e} h => by cases n with
    | zero => exact h
    | succ n => exact .inl h
  refine .inr ⟨r, _, _, rfl, rfl, f, h, rfl, fun i x e h1 h2 => ?_⟩
  match i, h1, h2 with
  | 0, h1, h2 => cases h1; cases h2; exact sc (.inr (.inr (.inr ⟨_, ht, rfl, rfl⟩)))
  | 1, h1, h2 => cases h1; cases h2; exact sc hs
theorem fr_parts {F : Addr → Prop} {n : Nat} {r : Addr} {t : List Nat} {ys : List V} {ds : List PyData} (ht : plain t) (f : F r) (h : H r = some (.lst ([vS t] ++ ys))) (hl : ys.length = ds.length) (hf : ∀ (i : Nat) y e, ys[i]? = some y → ds[i]? = some e → Fr F H (n + 1) y (faceD n e)) :
    Fr F H (n + 1 + 1) (.ref r) (.list (dS t :: ds.map (faceD n))) := by
  refine .inr ⟨r, _, _, rfl, rfl, f, h, by simp [hl], fun i x e h1 h2 => ?_⟩
  match i, h1, h2 with
  | 0, h1, h2 => cases h1; cases h2; exact .inl (.inr (.inr (.inr ⟨_, ht, rfl, rfl⟩)))
  | i + 1, h1, h2 =>
    rw [List.getElem?_cons_succ, List.getElem?_map] at h2
    obtain ⟨e', h3, rfl⟩ := Option.map_eq_some_iff.mp h2
    exact hf i x e' h1 h3
theorem pure_law_face {n : Nat} (h : sp_law_face K (n + 1) vs H Q E) : t_law_face K n (E1 Q) (start ["_law_thing", "_law_part", "_law_key"] vs) H := by
  obtain ⟨v, rfl, d, hd, k⟩ := h
  show t_law_face K n (E1 Q) [some v, none, none] H
  have scal : Scal v d → t_law_face K n (E1 Q) [some v, none, none] H := by
    intro hs
    have hs' := hs
    unfold t_law_face
    rcases hs with ⟨rfl, rfl⟩ | ⟨b, rfl, rfl⟩ | ⟨i, rfl, rfl⟩ | ⟨l, hl, rfl, rfl⟩
    · walk_at "go"
      refine s_isiK Kd.non (b := false) (by decide +kernel) ?_
      walk_at "go"
      refine s_isiK Kd.non (b := false) (by decide +kernel) ?_
      walk_at "go"
      refine s_isiK Kd.non (b := false) (by decide +kernel) ?_
      walk_at "go"
      refine s_isiK Kd.non (b := false) (by decide +kernel) ?_
      walk_at "go"
      rename_i r H' nr e h
      exact k r H' nr e (fr_pair hs' nr h)
    · walk_at "go"
      refine s_isiK Kd.bl (b := false) (by decide +kernel) ?_
      walk_at "go"
      refine s_isiK Kd.bl (b := false) (by decide +kernel) ?_
      walk_at "go"
      refine s_isiK Kd.bl (b := false) (by decide +kernel) ?_
      walk_at "go"
      refine s_isiK Kd.bl (b := true) (by decide +kernel) ?_
      walk_at "go"
      rename_i r H' nr e h
      exact k r H' nr e (fr_pair hs' nr h)
    · walk_at "go"
      refine s_isiK Kd.int (b := false) (by decide +kernel) ?_
      walk_at "go"
      refine s_isiK Kd.int (b := false) (by decide +kernel) ?_
      walk_at "go"
      refine s_isiK Kd.int (b := false) (by decide +kernel) ?_
      walk_at "go"
      rename_i r H' nr e h
      exact k r H' nr e (fr_pair hs' nr h)
    · walk_at "go"
      refine s_isiK Kd.str (b := false) (by decide +kernel) ?_
      walk_at "go"
      refine s_isiK Kd.str (b := false) (by decide +kernel) ?_
      walk_at "go"
      refine s_isiK Kd.str (b := false) (by decide +kernel) ?_
      walk_at "go"
      refine s_isiK Kd.str (b := false) (by decide +kernel) ?_
      walk_at "go"
      rename_i r H' nr e h
      exact k r H' nr e (fr_pair hs' nr h)
  cases n with
  | zero => exact scal hd
  | succ n =>
    rcases hd with hd | ⟨a, xs, ds, rfl, rfl, h1, hn, hl, h2⟩ | ⟨a, xs, ds, rfl, rfl, h1, hn, hl, h2⟩
    · exact scal hd
    · unfold t_law_face
      walk_at "go"
      refine s_isiK (Kd.tup h1) (b := true) (by decide +kernel) ?_
      walk_at "go"
      rename_i q1 H1 n1 e1 h3
      refine lc_faces (ds := ds) (n := n) (walk_tup (xs := xs)) (fun H2 e2 => (e1.trans e2).sqT (by simp) h1) hn (by simp) hl (fun i x e hx he => Dd.ex e1 _ _ _ (h2 i x e hx he)) fun D H2 ys nD e2 hD hyl hf => ?_
      walk_at "go"
      rename_i p H3 np e3 hp
      have fr : H p = none := e1.free (e2.free np)
      refine k p H3 fr ((e1.trans e2).trans e3) (fr_parts plain_tags.1 fr hp hyl fun i y e hy he => ?_)
      exact Fr.mono (fun a h => e1.free h.1) (fun a zs _ ha => e3.get0 ha) _ _ _ (hf i y e hy he)
    · unfold t_law_face
      walk_at "go"
      refine s_isiK (Kd.lst h1) (b := false) (by decide +kernel) ?_
      walk_at "go"
      refine s_isiK (Kd.lst h1) (b := true) (by decide +kernel) ?_
      walk_at "go"
      rename_i q1 H1 n1 e1 h3
      refine lc_faces (ds := ds) (n := n) (walk_list (xs := xs)) (fun H2 e2 => SqL.of ((e1.trans e2).get0 h1)) hn (by simp) hl (fun i x e hx he => Dd.ex e1 _ _ _ (h2 i x e hx he)) fun D H2 ys nD e2 hD hyl hf => ?_
      walk_at "go"
      rename_i p H3 np e3 hp
      have fr : H p = none := e1.free (e2.free np)
      refine k p H3 fr ((e1.trans e2).trans e3) (fr_parts plain_tags.2.1 fr hp hyl fun i y e hy he => ?_)
      exact Fr.mono (fun a h => e1.free h.1) (fun a zs _ ha => e3.get0 ha) _ _ _ (hf i y e hy he)
end
end WB
/-! instances called: f(e, ..), f(k = v, ..) -/
namespace WB
open PySem PySem.Spec PyProof.Rows L2
/-- the node of a call whose callee is an instance, with keywords -/
theorem instKw_of {M : Model} {A : Around} {E : Value → Shared → Prop} {s : Shared} {a : Addr} {pos : Pos} {Q : Value → Shared → Prop} {args : List (Bool × Sem Value)} {kws : List (Option Str × Sem Value)} (hplain : (args.any (·.1) || kws.any (·.1.isNone)) = false)
    (h : wpAny M A (evalArgs (.ref a) true args kws) (fun z s₁ => (∃ C ox od, PySem.W.InstAt s₁.heap a ox C od ∧ ox.data = .plain) ∧ wpAny M A (call (.ref a) ([] ++ z.pos) z.kw) Q E s₁) E s) : wpAny M A (callWith pos (.ref a) [] args kws) Q E s := by
  unfold callWith
  refine wpAny_bind (wpAny_holding (wpAny_mono h (fun z s₁ h₁ => wpAny_bind (wpAny_standAt ?_)) fun _ _ y => y))
  obtain ⟨⟨C, ox, od, J, hd⟩, h₁⟩ := h₁
  simp only [hplain]
  refine wpAny_bind ((PySem.W.kco_keeper (M := M) J hd).here ?_)
  have fin : ∀ {t : Sem Value}, wpAny M A t Q E s₁ → wpAny M A (t >>= fun r => holding [r] point >>= fun _ => pure r) Q E s₁ :=
    fun ht => wpAny_bind (wpAny_mono ht (fun r s₂ hr => wpAny_bind (wpAny_holding (wpAny_point (wpAny_pure hr)))) fun _ _ y => y)
  exact fin (wpAny_operateT h₁)
section
variable {X : Cx} {fe e : Expr} {es : List Expr} {kws : List Keyword} {pos : Pos} {tf : TE} {t tk : TA} {C g : Addr} {sp : Sp} {CX : CXT} {E : XK} {k : Nat} {fd : FuncData} {ps ks : List Str} {gS : List Value → List Value → List Value} {gV : List V → List V → List V}
def tInst (C : Addr) (sp : Sp) (E : XK) (tf : TE) (t : TA) : TE := fun σ H Q => tf σ H fun y H1 => ∃ a, y = V.ref a ∧ t σ H1 fun vs H2 => (∃ dx fs, H2 a = some (.ins C dx fs)) ∧ sp (V.ref a :: vs) H2 Q E
theorem pe_inst (hf : PE X fe tf) (c : StX.CallO X.K C g) (F : FnR X.prog X.w X.K X.mg X.base CX k g sp) (hr : Room k X.A) (hx : Passes CX X E) (ha : PA X (e :: es) t)
    (ht : eval (.Call fe (e :: es) [] pos) X.env = (do callWith pos (← eval fe X.env) [] (backTo pos (starEach (e :: es) X.env)) (backToKw pos (keywordEach [] X.env))) := by rfl)
    (he : starEach (e :: es) X.env = (false, eval e X.env) :: starEach es X.env := by rfl) (hpl : (backTo pos (starEach es X.env)).any (·.1) = false := by rfl) : PE X (.Call fe (e :: es) [] pos) (tInst C sp E tf t) := by
  refine ⟨fun pins s σ H Q I h => Call_ (thn (hf.run pins s σ H _ I h) fun u s1 ⟨y, H1, I1, ry, a, ey, q⟩ => ?_) ht⟩
  subst ey
  obtain rfl : u = Value.ref a := ry
  refine StX.callO_with (thn (ha.run pos pins s1 σ H1 _ I1 q) fun us s2 ⟨vs, H2, I2, r, hi, q2⟩ => ?_) he hpl
  obtain ⟨ox, od, J, hd⟩ := StX.insC_at I2 (.inr hi)
  exact ⟨⟨C, ox, od, J, hd⟩, StX.run_callO c F hr hx I2 (.inr hi) r q2⟩
def tInstK (C : Addr) (n : Nat) (sp : Sp) (gV : List V → List V → List V) (E : XK) (tf : TE) (tk : TA) : TE := fun σ H Q => tf σ H fun y H1 => ∃ a, y = V.ref a ∧ tk σ H1 fun zs H2 => (∃ dx fs, H2 a = some (.ins C dx fs)) ∧ zs.length = n ∧ sp (gV [.ref a] zs) H2 Q E
theorem pe_instK (hf : PE X fe tf) (c : StX.CallO X.K C g) (F : FnOk X.prog X.w X.K X.mg X.base CX k g fd ps sp) (hr : Room k X.A) (hb : KBn X.K fd ps 1 ks gS gV) (hx : Passes CX X E) (hkw : PK X kws tk)
    (hall : (backToKw pos (keywordEach kws X.env)).all (·.1.isSome) = true := by rfl) (hks : (backToKw pos (keywordEach kws X.env)).filterMap (·.1) = ks := by rfl)
    (hpl : ((backTo pos (starEach [] X.env)).any (·.1) || (backToKw pos (keywordEach kws X.env)).any (·.1.isNone)) = false := by rfl)
    (ht : eval (.Call fe [] kws pos) X.env = (do callWith pos (← eval fe X.env) [] (backTo pos (starEach [] X.env)) (backToKw pos (keywordEach kws X.env))) := by rfl) :
    PE X (.Call fe [] kws pos) (tInstK C ks.length sp gV E tf tk) := by
  refine ⟨fun pins s σ H Q I h => ?_⟩
  rw [ht]
  refine wpAny_bind (thn (hf.run pins s σ H _ I h) fun u s1 ⟨y, H1, I1, ry, a, ey, q⟩ => ?_)
  subst ey
  obtain rfl : u = Value.ref a := ry
  refine instKw_of hpl (evalArgs_kw2_nil hall (thn (hkw.run pos pins s1 σ H1 _ I1 q) fun ws s2 ⟨zs, H2, I2, rz, hi, l2, q2⟩ => ?_))
  obtain ⟨ox, od, J, hd⟩ := StX.insC_at I2 (.inr hi)
  refine ⟨⟨C, ox, od, J, hd⟩, ?_⟩
  rw [hks]
  have r2 := hb.rel (vs := [.ref a]) (us := [.ref a]) (.cons rfl .nil) rz
  refine wpAny_call (PySem.W.kco_code I2.kIn J hd c.at_ c.fn c.fi (codeAny_mono (F.run X.A X.stack s2 H2 ⟨[.ref a], ks.zip ws⟩ (gS [.ref a] ws) (gV [.ref a] zs) Q E hr I2.env0 (hb.to s2 [.ref a] ws I2.kIn rfl (rz.length.symm.trans l2)) r2 q2) fun r s' hq => ?_))
  cases r with
  | error e => exact hx pins σ H2 s2 e s' I2 hq
  | ok fl =>
    cases fl with
    | ret u => exact I2.after hq
    | next => exact False.elim hq
    | brk => exact False.elim hq
    | cont => exact False.elim hq
end
end WB
namespace WB
open PySem PySem.Spec PyProof.Rows L2
/-! ### loops, plain -/
def MRK : List Nat := LET ++ [48, 49, 50, 51, 52, 53, 54, 55, 56, 57]
def isName (l : List Nat) : Prop := 1 ≤ l.length ∧ l.length ≤ 8 ∧ (∃ c r, l = c :: r ∧ c ∈ LET) ∧ ∀ c ∈ l, c ∈ MRK
theorem lit_MRK : ("abcdefghijklmnopqrstuvwxyz0123456789" : Str) = S MRK := by decide +kernel
/-- state, sign, later, amount -/
structure Rw where
  a : List Nat
  c : Nat
  b : List Nat
  n : Int
structure Tn where
  a : List Nat
  b : List Nat
  n : Int
/-- a loop's parts -/
structure LM where
  ab : List Nat
  st : List (List Nat)
  tb : List Nat → Nat → List Nat × Int
  en : List Nat → List Nat × Int
  ok : List (List Nat)
def goodSt (st : List (List Nat)) : Prop := 1 ≤ st.length ∧ st.length ≤ 6 ∧ st.Nodup ∧ ∀ a ∈ st, isName a
structure GoodM (M : LM) : Prop where
  ab : goodS M.ab
  st : goodSt M.st
  tb : ∀ a ∈ M.st, ∀ c ∈ M.ab, (M.tb a c).1 ∈ M.st
  en : ∀ a ∈ M.st, (M.en a).1 ∈ M.st
  ok : ∀ a ∈ M.ok, a ∈ M.st
def goodRws (s : List Nat) (st : List (List Nat)) (rs : List Rw) : Prop := (∀ r ∈ rs, r.a ∈ st ∧ r.c ∈ s ∧ r.b ∈ st) ∧ (rs.map fun r => (r.a, r.c)).Nodup ∧ rs.length = s.length * st.length
def goodTns (st : List (List Nat)) (ts : List Tn) : Prop := (∀ t ∈ ts, t.a ∈ st ∧ t.b ∈ st) ∧ (ts.map fun t => t.a).Nodup
def goodYes (st ys : List (List Nat)) : Prop := (∀ y ∈ ys, y ∈ st) ∧ ys.Nodup
def rwV (r : Rw) : List V := [vS r.a, vS [r.c], vS r.b, .int r.n]
def tnV (t : Tn) : List V := [vS t.a, vS t.b, .int t.n]
/-- a tuple of tuples -/
def TupsAt (K : PySem.W.Frag) (H : Hp) (t : Addr) (ls : List (List V)) : Prop := ∃ xs, SqT K H t xs ∧ xs.length = ls.length ∧ ∀ (i : Nat) x l, xs[i]? = some x → ls[i]? = some l → ∃ p, x = .ref p ∧ SqT K H p l
section
variable {K : PySem.W.Frag} {H H' : Hp} {Q : VK} {E : XK} {t a : Addr}
theorem TupsAt.ex0 {ls : List (List V)} (e : Ex [] H H') (h : TupsAt K H t ls) : TupsAt K H' t ls := by
  obtain ⟨xs, h1, h2, h3⟩ := h
  refine ⟨xs, e.sqT (by simp) h1, h2, fun i x l hx hl => ?_⟩
  obtain ⟨p, h4, h5⟩ := h3 i x l hx hl
  exact ⟨p, h4, e.sqT (by simp) h5⟩
theorem TupsAt.exP {ls : List (List V)} (hp : PoolAt H a) (e : Ex [a] H H') (h : TupsAt K H t ls) : TupsAt K H' t ls := by
  obtain ⟨xs, h1, h2, h3⟩ := h
  refine ⟨xs, sqT_pool hp e h1, h2, fun i x l hx hl => ?_⟩
  obtain ⟨p, h4, h5⟩ := h3 i x l hx hl
  exact ⟨p, h4, sqT_pool hp e h5⟩
/-! ### promises of the checks -/
def sp_is_name (K : PySem.W.Frag) : Sp := fun vs H Q _ => ∃ l : List Nat, vs = [vS l] ∧ isName l ∧ ∀ H', Ex [] H H' → Q (.bl true) H'
def sp_is_step (K : PySem.W.Frag) : Sp := fun vs H Q _ => ∃ (p : Addr) (s : List Nat) (t : Addr), vs = [.ref p, vS s, .ref t] ∧ ∃ (r : Rw) (st : List (List Nat)), SqT K H p (rwV r) ∧ SqT K H t (st.map vS) ∧ r.a ∈ st ∧ r.c ∈ s ∧ r.b ∈ st ∧ ∀ H', Ex [] H H' → Q (.bl true) H'
def sp_is_turn (K : PySem.W.Frag) : Sp := fun vs H Q _ => ∃ (p t : Addr), vs = [.ref p, .ref t] ∧ ∃ (r : Tn) (st : List (List Nat)), SqT K H p (tnV r) ∧ SqT K H t (st.map vS) ∧ r.a ∈ st ∧ r.b ∈ st ∧ ∀ H', Ex [] H H' → Q (.bl true) H'
def sp_check_states (K : PySem.W.Frag) : Sp := fun vs H Q _ => ∃ t : Addr, vs = [.ref t] ∧ ∃ st : List (List Nat), SqT K H t (st.map vS) ∧ goodSt st ∧ ∀ H', Ex [] H H' → Q .non H'
def sp_check_rows (K : PySem.W.Frag) : Sp := fun vs H Q _ => ∃ (s : List Nat) (t u : Addr), vs = [vS s, .ref t, .ref u] ∧ ∃ (st : List (List Nat)) (rs : List Rw), goodS s ∧ SqT K H t (st.map vS) ∧ goodSt st ∧ TupsAt K H u (rs.map rwV) ∧ goodRws s st rs ∧ ∀ H', Ex [] H H' → Q .non H'
def sp_check_turns (K : PySem.W.Frag) : Sp := fun vs H Q _ => ∃ (t u : Addr), vs = [.ref t, .ref u] ∧ ∃ (st : List (List Nat)) (ts : List Tn), SqT K H t (st.map vS) ∧ goodSt st ∧ TupsAt K H u (ts.map tnV) ∧ goodTns st ts ∧ ∀ H', Ex [] H H' → Q .non H'
def sp_check_yes (K : PySem.W.Frag) : Sp := fun vs H Q _ => ∃ (t u : Addr), vs = [.ref t, .ref u] ∧ ∃ st ys : List (List Nat), SqT K H t (st.map vS) ∧ SqT K H u (ys.map vS) ∧ goodYes st ys ∧ ∀ H', Ex [] H H' → Q .non H'
theorem u_is_name {l : List Nat} (h : isName l) (k : ∀ H', Ex [] H H' → Q (.bl true) H') : sp_is_name K ([vS l] ++ []) H Q E := ⟨l, rfl, h, k⟩
theorem u_is_step {p t : Addr} {s : List Nat} {r : Rw} {st : List (List Nat)} (h1 : SqT K H p (rwV r)) (h2 : SqT K H t (st.map vS)) (ha : r.a ∈ st) (hc : r.c ∈ s) (hb : r.b ∈ st) (k : ∀ H', Ex [] H H' → Q (.bl true) H') : sp_is_step K ([.ref p, vS s, .ref t] ++ []) H Q E := ⟨p, s, t, rfl, r, st, h1, h2, ha, hc, hb, k⟩
theorem u_is_turn {p t : Addr} {r : Tn} {st : List (List Nat)} (h1 : SqT K H p (tnV r)) (h2 : SqT K H t (st.map vS)) (ha : r.a ∈ st) (hb : r.b ∈ st) (k : ∀ H', Ex [] H H' → Q (.bl true) H') : sp_is_turn K ([.ref p, .ref t] ++ []) H Q E := ⟨p, t, rfl, r, st, h1, h2, ha, hb, k⟩
theorem u_check_states {st : List (List Nat)} (h : SqT K H t (st.map vS)) (hg : goodSt st) (k : ∀ H', Ex [] H H' → Q .non H') : sp_check_states K ([.ref t] ++ []) H Q E := ⟨t, rfl, st, h, hg, k⟩
theorem u_check_rows {s : List Nat} {u : Addr} {st : List (List Nat)} {rs : List Rw} (hs : goodS s) (h : SqT K H t (st.map vS)) (hg : goodSt st) (hr : TupsAt K H u (rs.map rwV)) (hgr : goodRws s st rs) (k : ∀ H', Ex [] H H' → Q .non H') : sp_check_rows K ([vS s, .ref t, .ref u] ++ []) H Q E := ⟨s, t, u, rfl, st, rs, hs, h, hg, hr, hgr, k⟩
theorem u_check_turns {u : Addr} {st : List (List Nat)} {ts : List Tn} (h : SqT K H t (st.map vS)) (hg : goodSt st) (hr : TupsAt K H u (ts.map tnV)) (hgr : goodTns st ts) (k : ∀ H', Ex [] H H' → Q .non H') : sp_check_turns K ([.ref t, .ref u] ++ []) H Q E := ⟨t, u, rfl, st, ts, h, hg, hr, hgr, k⟩
theorem u_check_yes {u : Addr} {st ys : List (List Nat)} (h : SqT K H t (st.map vS)) (hr : SqT K H u (ys.map vS)) (hgr : goodYes st ys) (k : ∀ H', Ex [] H H' → Q .non H') : sp_check_yes K ([.ref t, .ref u] ++ []) H Q E := ⟨t, u, rfl, st, ys, h, hr, hgr, k⟩
end
theorem nodup_le {α : Type} [DecidableEq α] : ∀ (ps qs : List α), ps.Nodup → (∀ p ∈ ps, p ∈ qs) → ps.length ≤ qs.length
  | [], _, _, _ => Nat.zero_le _
  | x :: ps, qs, hn, hs => by
    obtain ⟨h1, h2⟩ := List.nodup_cons.mp hn
    have hx : x ∈ qs := hs x List.mem_cons_self
    have := nodup_le ps (qs.erase x) h2 fun p hp => (List.mem_erase_of_ne (fun (e : p = x) => h1 (by rw [← e]; exact hp))).mpr (hs p (List.mem_cons_of_mem _ hp))
    rw [List.length_erase_of_mem hx] at this
    have := List.length_pos_of_mem hx
    simp only [List.length_cons]
    omega
theorem take1 {α β : Type} (f : α → β) {l : List α} {i : Nat} (h : i < l.length) : (l.take (i + 1)).map f = (l.take i).map f ++ [f l[i]] := by
  rw [List.take_add_one, List.getElem?_eq_getElem h, List.map_append]
  rfl
theorem LETplain : ∀ c ∈ LET, c < 55296 := fun c hc => let_plain hc
theorem name_plain {l : List Nat} (h : isName l) : plain l := fun c hc => by
  have := h.2.2.2 c hc
  rcases List.mem_append.mp this with h | h
  · exact let_plain h
  · exact (show ∀ c ∈ [48, 49, 50, 51, 52, 53, 54, 55, 56, 57], c < 55296 by decide) c h
end WB
namespace WB
open PySem PySem.Spec PyProof.Rows L2
local macro_rules | `(tactic| walk_at "lit") => `(tactic| first | exact lit_abc | exact lit_empty)
local macro_rules | `(tactic| walk_at "nm") => `(tactic| focus first | exact List.not_mem_nil | (simp only [List.mem_singleton]; first | assumption | (exact Ne.symm (by assumption)) | (intro hz; subst hz; simp_all; done)))
local macro_rules | `(tactic| walk_at "hp") => `(tactic| first | assumption | (apply Ex.get0 (by assumption); walk_at "hp") | (apply Ex.get (by assumption); (walk_at "nm"); (walk_at "hp")))
local macro_rules | `(tactic| walk_at "sq") => `(tactic| first | assumption | (apply SqL.of; walk_at "hp") | (apply Ex.sqL (by assumption); (walk_at "nm"); (walk_at "sq")))
local macro_rules | `(tactic| walk_at "sqt") => `(tactic| first | assumption | (apply SqT.of; walk_at "hp") | (apply Ex.sqT (by assumption); (walk_at "nm"); (walk_at "sqt")))
local macro_rules | `(tactic| walk_at "sz") => `(tactic| focus ((with_reducible refine Nat.le_trans (m := 100000) ?_ (by decide)); first | omega | (simp; done) | (simp; omega)))
local macro_rules | `(tactic| walk_at "mul") => `(tactic| first | exact Or.inr ⟨by omega, by omega⟩ | exact Or.inl ⟨by omega, by omega⟩)
local macro_rules | `(tactic| walk_at "pool") => `(tactic| first | assumption | (apply PoolAt.ex (by assumption); (walk_at "nm"); (walk_at "pool")))
local macro_rules | `(tactic| walk_at "ring") => `(tactic| first | assumption | (apply RingAt.ex (by assumption); (walk_at "nm"); (walk_at "ring")))
local macro_rules | `(tactic| walk_at "st") => `(tactic| first
  | with_reducible refine s_seq ?_
  | with_reducible refine s_asg ?_
  | with_reducible refine s_gName ?_
  | with_reducible refine s_ret ?_
  | with_reducible refine s_ifS ?_
  | with_reducible refine s_next ?_
  | with_reducible refine s_op ?_
  | ((with_reducible apply s_var); exact rfl)
  | ((with_reducible apply s_cS); (walk_at "lit"))
  | with_reducible refine s_c ?_
  | with_reducible refine s_cb ?_
  | with_reducible refine s_cons ?_
  | with_reducible refine s_nil ?_
  | with_reducible refine s_un ?_
  | with_reducible refine s_call ?_
  | with_reducible refine s_test ?_
  | with_reducible refine s_tB ?_
  | with_reducible refine s_blQ ?_
  | with_reducible refine s_not ?_
  | with_reducible refine s_and ?_
  | with_reducible refine s_or ?_
  | with_reducible refine s_andV ?_
  | with_reducible refine s_orV ?_
  | with_reducible refine s_notV ?_
  | with_reducible refine s_ifE ?_
  | with_reducible refine s_chain ?_
  | ((with_reducible refine s_T ?_ ?_); (with_reducible exact rfl))
  | with_reducible refine s_nT ?_
  | with_reducible refine s_nF ?_
  | ((with_reducible refine s_F ?_ ?_); (with_reducible exact rfl))
  | ((with_reducible refine s_T ?_ ?_); assumption)
  | ((with_reducible refine s_F ?_ ?_); assumption)
  | ((with_reducible refine s_nB ?_ ?_); assumption)
  | ((with_reducible refine s_nA ?_ ?_); assumption)
  | ((with_reducible refine s_Td ?_ ?_); omega)
  | ((with_reducible refine s_Fd ?_ ?_); omega)
  | ((with_reducible refine s_nTd ?_ ?_); omega)
  | ((with_reducible refine s_nFd ?_ ?_); omega)
  | with_reducible refine s_sfld ?_
  | with_reducible refine s_addI ?_
  | with_reducible refine s_subI ?_
  | ((with_reducible refine s_mulI ?_ ?_); (walk_at "mul"))
  | ((with_reducible refine s_divI ?_ ?_); exact ⟨by omega, by omega⟩)
  | ((with_reducible refine s_modI ?_ ?_); omega)
  | ((with_reducible refine s_powI ?_ ?_); exact ⟨by decide, by decide, by decide⟩)
  | with_reducible refine s_ltI ?_
  | with_reducible refine s_leI ?_
  | with_reducible refine s_gtI ?_
  | with_reducible refine s_geI ?_
  | with_reducible refine s_negI ?_
  | with_reducible refine s_absI ?_
  | with_reducible refine s_intI ?_
  | with_reducible refine s_min2 ?_
  | with_reducible refine s_max2 ?_
  | with_reducible refine s_eqI ?_
  | with_reducible refine s_neI ?_
  | with_reducible refine s_eqS ?_
  | with_reducible refine s_neS ?_
  | with_reducible refine s_inSg ?_
  | with_reducible refine s_notInSg ?_
  | ((with_reducible refine s_addS ?_ ?_); (walk_at "sz"))
  | ((with_reducible refine s_lenS ?_ ?_); (walk_at "sz"))
  | ((with_reducible apply s_lenL); (walk_at "sq"))
  | ((with_reducible apply s_lenT); (walk_at "sqt"))
  | ((with_reducible apply s_ixL); (walk_at "sq"); exact rfl)
  | ((with_reducible apply s_ixT); (walk_at "sqt"); exact rfl)
  | with_reducible refine s_gSub ?_
  | ((with_reducible apply s_setL); (walk_at "hp"); (exact rfl); (intro _ _ _))
  | ((with_reducible refine s_alloc ?_ ?_); (walk_at "sz"); (intro _ _ _ _ _))
  | ((with_reducible refine s_divmod ?_ ?_); (exact ⟨by omega, PyProof.noPylong_small (by omega)⟩); (intro _ _ _ _ _))
  | ((with_reducible apply s_gTup); (walk_at "sqt"); (exact rfl))
  | ((with_reducible apply s_gLst); (walk_at "sq"); (exact rfl))
  | with_reducible refine s_gCons ?_
  | with_reducible refine s_gNil ?_
  | with_reducible refine s_lc ?_
  | ((with_reducible apply s_cat); (walk_at "hp"); (walk_at "hp"); (walk_at "sz"); (intro _ _ _ _ _))
  | ((with_reducible apply s_slL); (walk_at "sq"); (intro _ _ _ _ _))
  | with_reducible refine s_for ?_
  | with_reducible refine s_rng1 ?_
  | ((with_reducible refine s_rng1i ?_ ?_); (constructor <;> omega))
  | with_reducible refine s_rng2 ?_
  | ((with_reducible refine s_rng2i ?_ ?_); (refine ⟨?_, ?_, ?_, ?_⟩ <;> omega))
  | with_reducible refine s_iStr ?_
  | with_reducible refine s_iStrS ?_
  | with_reducible refine s_iList ?_
  | ((with_reducible apply s_iListA); (walk_at "sq"))
  | with_reducible refine s_iTup ?_
  | ((with_reducible apply s_iTupA); (walk_at "sqt"))
  | with_reducible refine s_sl ?_
  | with_reducible refine s_noPart ?_
  | with_reducible refine s_part ?_
  | with_reducible refine s_int1 ?_
  | ((with_reducible refine s_slS ?_ ?_); (walk_at "sz"))
  | with_reducible refine s_tup ?_
  | with_reducible refine s_lst ?_
  | with_reducible refine s_par ?_
  | with_reducible refine s_pair ?_
  | with_reducible refine s_M1 ?_
  | with_reducible refine s_isStr ?_
  | with_reducible refine s_revS ?_
  | ((with_reducible refine s_revS1 ?_ ?_); (walk_at "sz"))
  | with_reducible refine s_fldE ?_
  | with_reducible refine s_propE ?_
  | ((with_reducible refine u_draw ?_ ?_ ?_ ?_); omega; omega; (walk_at "pool"); (intro _ _ _ _ _ _))
  | ((with_reducible refine u_pool ?_); (intro _ _ _ _ _))
  | with_reducible refine u_is_integer ?_
  | with_reducible refine s_isiII ?_
  | with_reducible refine s_isiIB ?_
  | with_reducible refine s_isiSS ?_
  | ((with_reducible apply u_fldRing); assumption; (walk_at "ring"))
  | ((with_reducible apply u_textP); (walk_at "ring"))
  | ((with_reducible apply u_strRing); (walk_at "ring"))
  | ((with_reducible apply u_eqRing); (walk_at "ring"); (walk_at "ring"))
  | ((with_reducible apply u_isiRing); assumption; (walk_at "ring"))
  | ((with_reducible refine u_is_word ?_ ?_); omega; (intro _ _))
  | ((with_reducible refine u_turnings ?_ ?_); omega; (intro _ _ _ _ _))
  | with_reducible refine s_makeE ?_
  | with_reducible refine s_methE ?_)
local macro_rules | `(tactic| walk_at "go") => `(tactic| repeat (walk_at "st"))
local macro_rules | `(tactic| walk_at "exs") => `(tactic| first | exact Ex.rfl | assumption | (apply Ex.snoc (by assumption); walk_at "exs") | (apply Ex.snocW (by assumption); walk_at "exs"))
local macro_rules | `(tactic| walk_at "kind") => `(tactic| first | assumption | (apply KindAt.ex0 (by assumption); (walk_at "kind")) | (apply KindAt.exP (by assumption) (by assumption); (walk_at "kind")))
local macro_rules | `(tactic| walk_at "st") => `(tactic| first
  | with_reducible refine s_lenSet ?_
  | with_reducible refine s_drop ?_
  | with_reducible refine s_bm ?_
  | with_reducible refine s_notN ?_
  | with_reducible refine s_isN ?_
  | ((with_reducible apply s_tyL); (walk_at "hp"))
  | with_reducible refine s_enumT ?_
  | ((with_reducible apply s_enumTA); (walk_at "sqt"))
  | with_reducible refine s_lc2 ?_)
local macro_rules | `(tactic| walk_at "lit") => `(tactic| exact lit_MRK)
/-- is_name: 0 value 1 mark -/
def t_is_name (K : PySem.W.Frag) : TS :=
  (tSeq (tIfS (tOr (tNot (tB (tCB (rIsi K) (tCons (tVar 0) (tCons (tC (.ty "str")) tNil))))) (tNot (tTest (tChain rLeI rLeI (tC (.int 1)) (tCB (rLenV K) (tCons (tVar 0) tNil)) (tC (.int 8)))))) (tRet (tC (.bl false))) tNext)
  (tRet (tAndV (tOp rInSg (tOp rIxS (tVar 0) (tC (.int 0))) (tC (.str "abcdefghijklmnopqrstuvwxyz"))) (tCB (rAll K) (tCons (tLc (iStr (tVar 0)) (gName 1) tYes (tOp rInSg (tVar 1) (tC (.str "abcdefghijklmnopqrstuvwxyz0123456789"))) [1]) tNil)))))
/-- is_step: 0 row 1 signs 2 states -/
def t_is_step (K : PySem.W.Frag) : TS :=
  (tSeq (tIfS (tOr (tNot (tB (tCall (sp_is_row K) [] E0 (tCons (tVar 0) (tCons (tC (.int 4)) tNil))))) (tOr (tNot (tB (tCall (sp_is_word K) [] E0 (tCons (tOp (rIxT K) (tVar 0) (tC (.int 1))) (tCons (tVar 1) tNil))))) (tTest (tOp rNe (tCB (rLenV K) (tCons (tOp (rIxT K) (tVar 0) (tC (.int 1))) tNil)) (tC (.int 1)))))) (tRet (tC (.bl false))) tNext)
  (tRet (tAndV (tOp (rIn K false) (tOp (rIxT K) (tVar 0) (tC (.int 0))) (tVar 2)) (tAndV (tOp (rIn K false) (tOp (rIxT K) (tVar 0) (tC (.int 2))) (tVar 2)) (tCall (sp_is_integer K) [] E0 (tCons (tOp (rIxT K) (tVar 0) (tC (.int 3))) tNil))))))
/-- is_turn: 0 turn 1 states -/
def t_is_turn (K : PySem.W.Frag) : TS :=
  (tRet (tAndV (tCall (sp_is_row K) [] E0 (tCons (tVar 0) (tCons (tC (.int 3)) tNil))) (tAndV (tOp (rIn K false) (tOp (rIxT K) (tVar 0) (tC (.int 0))) (tVar 1)) (tAndV (tOp (rIn K false) (tOp (rIxT K) (tVar 0) (tC (.int 1))) (tVar 1)) (tCall (sp_is_integer K) [] E0 (tCons (tOp (rIxT K) (tVar 0) (tC (.int 2))) tNil))))))
/-- check_states: 0 states 1 index 2 state -/
def t_check_states (K : PySem.W.Frag) : TS :=
  (tSeq (tIfS (tOr (tNot (tB (tCB (rIsi K) (tCons (tVar 0) (tCons (tC (.ty "tuple")) tNil))))) (tTest (tOp rEq (tCB (rLenV K) (tCons (tVar 0) tNil)) (tC (.int 0))))) tNever tNext)
  (tFor (iEnumT K (tCons (tVar 0) tNil)) (gTup K 2 (gCons (gName 1) (gCons (gName 2) gNil))) (tIfS (tOr (tTest (tOp rEq (tVar 1) (tC (.int 6)))) (tOr (tNot (tB (tCall (sp_is_name K) [] E0 (tCons (tVar 2) tNil)))) (tTest (tOp (rIn K false) (tVar 2) (tSl (rSlA K) (tVar 0) tNoPart (tPart (tVar 1))))))) tNever tNext)))
/-- check_rows: 0 signs 1 states 2 rows 3 seen 4 index 5 row -/
def t_check_rows (K : PySem.W.Frag) : TS :=
  (tSeq (tIfS (tNot (tB (tCB (rIsi K) (tCons (tVar 2) (tCons (tC (.ty "tuple")) tNil))))) tNever tNext)
  (tSeq (tAsg (tLst tNil) (gName 3))
  (tSeq (tFor (iEnumT K (tCons (tVar 2) tNil)) (gTup K 2 (gCons (gName 4) (gCons (gName 5) gNil))) (tSeq (tIfS (tOr (tNot (tB (tCall (sp_is_step K) [] E0 (tCons (tVar 5) (tCons (tVar 0) (tCons (tVar 1) tNil)))))) (tTest (tOp (rInD K) (tSl (rSlA K) (tVar 5) tNoPart (tPart (tC (.int 2)))) (tVar 3)))) tNever tNext)
  (tDrop (tBM K "list" rAppend (tVar 3) (tCons (tSl (rSlA K) (tVar 5) tNoPart (tPart (tC (.int 2)))) tNil)))))
  (tIfS (tTest (tOp rLtI (tCB (rLenV K) (tCons (tVar 2) tNil)) (tOp rMulI (tCB (rLenV K) (tCons (tVar 0) tNil)) (tCB (rLenV K) (tCons (tVar 1) tNil))))) tNever tNext))))
/-- check_turns: 0 states 1 turns 2 seen 3 index 4 turn -/
def t_check_turns (K : PySem.W.Frag) : TS :=
  (tSeq (tIfS (tNot (tB (tCB (rIsi K) (tCons (tVar 1) (tCons (tC (.ty "tuple")) tNil))))) tNever tNext)
  (tSeq (tAsg (tLst tNil) (gName 2))
  (tFor (iEnumT K (tCons (tVar 1) tNil)) (gTup K 2 (gCons (gName 3) (gCons (gName 4) gNil))) (tSeq (tIfS (tOr (tNot (tB (tCall (sp_is_turn K) [] E0 (tCons (tVar 4) (tCons (tVar 0) tNil))))) (tTest (tOp (rIn K false) (tOp (rIxT K) (tVar 4) (tC (.int 0))) (tVar 2)))) tNever tNext)
  (tDrop (tBM K "list" rAppend (tVar 2) (tCons (tOp (rIxT K) (tVar 4) (tC (.int 0))) tNil)))))))
/-- check_yes: 0 states 1 yes 2 index 3 state -/
def t_check_yes (K : PySem.W.Frag) : TS :=
  (tSeq (tIfS (tNot (tB (tCB (rIsi K) (tCons (tVar 1) (tCons (tC (.ty "tuple")) tNil))))) tNever tNext)
  (tFor (iEnumT K (tCons (tVar 1) tNil)) (gTup K 2 (gCons (gName 2) (gCons (gName 3) gNil))) (tIfS (tOr (tTest (tOp (rIn K true) (tVar 3) (tVar 0))) (tTest (tOp (rIn K false) (tVar 3) (tSl (rSlA K) (tVar 1) tNoPart (tPart (tVar 2)))))) tNever tNext)))
/-- place_of: 0 at 1 size 2 begin -/
def t_place_of (K : PySem.W.Frag) : TS :=
  (tRet (tIf (tTest (tOp rLtI (tVar 0) (tVar 1))) (tVar 0) (tOp rAddI (tVar 2) (tOp rModI (tOp rSubI (tVar 0) (tVar 2)) (tOp rSubI (tVar 1) (tVar 2))))))
section
variable {K : PySem.W.Frag} {vs : List V} {H : Hp} {Q : VK} {E : XK}
theorem pure_is_name (h : sp_is_name K vs H Q E) : t_is_name K (E1 Q) (start ["value", "mark"] vs) H := by
  obtain ⟨l, rfl, ⟨h1, h2, ⟨c, r, hl, hc⟩, h3⟩, k⟩ := h
  show t_is_name K (E1 Q) [some (vS l), none] H
  unfold t_is_name
  walk_at "go"
  refine s_ixS (c := c) (by walk_at "sz") (atI_of (by omega) (by rw [hl]; rfl)) ?_
  walk_at "go"
  refine lc_mapS (by omega) (fun _ => true) (fun _ => .bl true) (fun d H1 C1 C0 hd e1 k1 k0 => ?_) (fun D H1 hD e1 hd => ?_)
  · refine s_yes ?_
    walk_at "go"
    rw [decide_eq_true (show d ∈ MRK from h3 d hd)]
    exact k1 _ Ex.rfl rfl
  walk_at "go"
  rw [show l.filter (fun _ => true) = l from List.filter_eq_self.mpr fun _ _ => rfl] at hd
  refine s_all (bs := l.map fun _ => true) (SqL.of (by rw [hd, List.map_map]; rfl)) ?_
  rw [show (l.map fun _ => true).all id = true by simp]
  exact k _ e1
theorem pure_is_step (h : sp_is_step K vs H Q E) : t_is_step K (E1 Q) (start ["row", "signs", "states"] vs) H := by
  obtain ⟨p, s, t, rfl, r, st, h1, h2, ha, hc, hb, k⟩ := h
  show t_is_step K (E1 Q) [some (.ref p), some (vS s), some (.ref t)] H
  unfold t_is_step
  walk_at "go"
  refine u_row h1 ?_
  walk_at "go"
  refine s_F rfl ?_
  walk_at "go"
  refine u_is_wordF (by simp) fun H1 e1 => ?_
  have hw : isWord [r.c] s = true := isWord_mk (by simp) (by simp) (by simpa using hc)
  rw [hw]
  walk_at "go"
  refine s_F (by simp) ?_
  walk_at "go"
  refine s_inT (e1.sqT (by simp) h2) ?_
  rw [decide_eq_true ha]
  walk_at "go"
  refine s_inT (e1.sqT (by simp) h2) ?_
  rw [decide_eq_true hb]
  walk_at "go"
  exact k _ e1
theorem pure_is_turn (h : sp_is_turn K vs H Q E) : t_is_turn K (E1 Q) (start ["turn", "states"] vs) H := by
  obtain ⟨p, t, rfl, r, st, h1, h2, ha, hb, k⟩ := h
  show t_is_turn K (E1 Q) [some (.ref p), some (.ref t)] H
  unfold t_is_turn
  walk_at "go"
  refine u_row h1 ?_
  walk_at "go"
  refine s_T rfl ?_
  walk_at "go"
  refine s_inT h2 ?_
  rw [decide_eq_true ha]
  walk_at "go"
  refine s_inT h2 ?_
  rw [decide_eq_true hb]
  walk_at "go"
  exact k _ Ex.rfl
/-- turns over enumerate(tuple) -/
theorem not_mem_take {α : Type} {ls : List α} (hn : ls.Nodup) {i : Nat} (hi : i < ls.length) : ls[i] ∉ ls.take i := fun z => by
  obtain ⟨j, hj, e⟩ := List.mem_take_iff_getElem.mp z
  exact absurd (List.getElem_inj hn |>.mp e) (by omega)
theorem pure_check_states (h : sp_check_states K vs H Q E) : t_check_states K (E1 Q) (start ["states", "index", "state"] vs) H := by
  obtain ⟨t, rfl, st, ht, ⟨g1, g2, g3, g4⟩, k⟩ := h
  show t_check_states K (E1 Q) [some (.ref t), none, none] H
  unfold t_check_states
  walk_at "go"
  refine s_isiK (Kd.tup ht) (b := true) (by decide +kernel) ?_
  walk_at "go"
  refine s_Fd (by rw [List.length_map]; omega) ?_
  walk_at "go"
  refine for_run walk_enumT (fun i σ H1 => ∃ x1 x2, σ = [some (.ref t), x1, x2] ∧ Ex [] H H1) ⟨_, _, rfl, Ex.rfl⟩ (fun i σ H1 _ ⟨_, _, _, e⟩ => e.sqT (by simp) ht) ?_ ?_
  · rintro i x σ H1 H2 hi ⟨x2, x3, rfl, e1⟩ ⟨T, y, z, rfl, hT, rfl, hy, hz⟩
    rw [List.length_map] at hi
    have hz : (st.map vS)[i]? = some z := hz
    rw [List.getElem?_map, List.getElem?_eq_getElem hi] at hz
    cases hz
    cases hy
    have e2 : Ex [] H1 (upd H1 T (.tup [.int (i : Nat), vS st[i]])) := Ex.new hT
    have h2 : (upd H1 T (.tup [.int (i : Nat), vS st[i]])) T = some (.tup [.int (i : Nat), vS st[i]]) := upd_same
    revert e2 h2
    generalize upd H1 T (.tup [.int (i : Nat), vS st[i]]) = H3
    intro e2 h2
    walk_at "go"
    refine u_is_name (g4 _ (List.getElem_mem hi)) fun H4 e4 => ?_
    walk_at "go"
    refine s_slA (xs := st.map vS) (by walk_at "sqt") fun q H5 e5 hs5 => ?_
    walk_at "go"
    rw [show cutV (st.map vS) none (some (i : Int)) = (st.take i).map vS by rw [cutV_to (by omega)]; simp [List.map_take]] at hs5
    refine s_inT hs5 ?_
    rw [decide_eq_false (not_mem_take g3 hi)]
    walk_at "go"
    exact ⟨_, _, rfl, (((e1.trans e2).trans e4).trans e5)⟩
  · rintro σ H1 ⟨x2, x3, rfl, e1⟩
    exact k _ e1
theorem pure_check_yes (h : sp_check_yes K vs H Q E) : t_check_yes K (E1 Q) (start ["states", "yes", "index", "state"] vs) H := by
  obtain ⟨t, u, rfl, st, ys, ht, hu, ⟨g1, g2⟩, k⟩ := h
  show t_check_yes K (E1 Q) [some (.ref t), some (.ref u), none, none] H
  unfold t_check_yes
  walk_at "go"
  refine s_isiK (Kd.tup hu) (b := true) (by decide +kernel) ?_
  walk_at "go"
  refine for_run walk_enumT (fun i σ H1 => ∃ x1 x2, σ = [some (.ref t), some (.ref u), x1, x2] ∧ Ex [] H H1) ⟨_, _, rfl, Ex.rfl⟩ (fun i σ H1 _ ⟨_, _, _, e⟩ => e.sqT (by simp) hu) ?_ ?_
  · rintro i x σ H1 H2 hi ⟨x2, x3, rfl, e1⟩ ⟨T, y, z, rfl, hT, rfl, hy, hz⟩
    rw [List.length_map] at hi
    have hz : (ys.map vS)[i]? = some z := hz
    rw [List.getElem?_map, List.getElem?_eq_getElem hi] at hz
    cases hz
    cases hy
    have e2 : Ex [] H1 (upd H1 T (.tup [.int (i : Nat), vS ys[i]])) := Ex.new hT
    have h2 : (upd H1 T (.tup [.int (i : Nat), vS ys[i]])) T = some (.tup [.int (i : Nat), vS ys[i]]) := upd_same
    revert e2 h2
    generalize upd H1 T (.tup [.int (i : Nat), vS ys[i]]) = H3
    intro e2 h2
    walk_at "go"
    refine s_notInT (ls := st) (by walk_at "sqt") ?_
    rw [decide_eq_true (g1 _ (List.getElem_mem hi))]
    walk_at "go"
    refine s_slA (xs := ys.map vS) (by walk_at "sqt") fun q H5 e5 hs5 => ?_
    walk_at "go"
    rw [show cutV (ys.map vS) none (some (i : Int)) = (ys.take i).map vS by rw [cutV_to (by omega)]; simp [List.map_take]] at hs5
    refine s_inT hs5 ?_
    rw [decide_eq_false (not_mem_take g2 hi)]
    walk_at "go"
    exact ⟨_, _, rfl, ((e1.trans e2).trans e5)⟩
  · rintro σ H1 ⟨x2, x3, rfl, e1⟩
    exact k _ e1
theorem pure_check_turns (h : sp_check_turns K vs H Q E) : t_check_turns K (E1 Q) (start ["states", "turns", "seen", "index", "turn"] vs) H := by
  obtain ⟨t, u, rfl, st, ts, ht, hst, hu, ⟨g1, g2⟩, k⟩ := h
  obtain ⟨xs, hxs, hxl, hxp⟩ := hu
  rw [List.length_map] at hxl
  have htl : ts.length ≤ 6 := by
    have := nodup_le _ st g2 fun a ha => by obtain ⟨t, h1, rfl⟩ := List.mem_map.mp ha; exact (g1 t h1).1
    rw [List.length_map] at this
    exact Nat.le_trans this hst.2.1
  show t_check_turns K (E1 Q) [some (.ref t), some (.ref u), none, none, none] H
  unfold t_check_turns
  walk_at "go"
  refine s_isiK (Kd.tup hxs) (b := true) (by decide +kernel) ?_
  walk_at "go"
  rename_i q H0 nq e0 h0
  refine for_run walk_enumT (fun i σ H1 => ∃ x1 x2, σ = [some (.ref t), some (.ref u), some (.ref q), x1, x2] ∧ Ex [] H H1 ∧ H1 q = some (.lst (((ts.take i).map fun t => t.a).map vS))) ⟨_, _, rfl, e0, by simpa using h0⟩ (fun i σ H1 _ ⟨_, _, _, e, _⟩ => e.sqT (by simp) hxs) ?_ ?_
  · rintro i x σ H1 H2 hi ⟨x2, x3, rfl, e1, h1⟩ ⟨T, y, z, rfl, hT, rfl, hy, hz⟩
    have hit : i < ts.length := by omega
    have hz : xs[i]? = some z := hz
    obtain ⟨p, rfl, hp⟩ := hxp i z (tnV ts[i]) hz (by rw [List.getElem?_map, List.getElem?_eq_getElem hit]; rfl)
    cases hy
    have hqT : q ≠ T := fun z => by rw [← z, h1] at hT; cases hT
    have e2 : Ex [] H1 (upd H1 T (.tup [.int (i : Nat), .ref p])) := Ex.new hT
    have h2 : (upd H1 T (.tup [.int (i : Nat), .ref p])) T = some (.tup [.int (i : Nat), .ref p]) := upd_same
    revert e2 h2
    generalize upd H1 T (.tup [.int (i : Nat), .ref p]) = H3
    intro e2 h2
    have hg := g1 _ (List.getElem_mem hit)
    walk_at "go"
    refine u_is_turn (r := ts[i]) (st := st) ((e1.trans e2).sqT (by simp) hp) ((e1.trans e2).sqT (by simp) ht) hg.1 hg.2 fun H4 e4 => ?_
    walk_at "go"
    refine s_inL (SqL.of ((e2.trans e4).get0 h1)) ?_
    rw [decide_eq_false (show ts[i].a ∉ (ts.take i).map fun t => t.a from fun z => by
      rw [List.map_take] at z
      have := not_mem_take g2 (i := i) (by rw [List.length_map]; exact hit)
      rw [List.getElem_map] at this
      exact this z)]
    walk_at "go"
    refine s_append (xs := ((ts.take i).map fun t => t.a).map vS) ((e2.trans e4).get0 h1) (by simp only [List.length_map, List.length_take]; exact Nat.lt_of_le_of_lt (Nat.min_le_left _ _) (Nat.lt_of_lt_of_le hit (Nat.le_trans htl (by decide)))) fun H5 e5 h5 => ?_
    refine ⟨_, _, rfl, Ex.drop nq ((e1.trans e2).trans e4) e5, ?_⟩
    rw [h5, take1 (fun t => t.a) hit, List.map_append]
    rfl
  · rintro σ H1 ⟨x2, x3, rfl, e1, _⟩
    exact k _ e1
/-- pairs as data -/
def dPr (z : List Nat × Nat) : PyData := .tuple [dS z.1, dS [z.2]]
theorem dPr_eqv (z w : List Nat × Nat) : PyData.eqv (dPr z) (dPr w) = decide (z = w) := by
  obtain ⟨a, c⟩ := z
  obtain ⟨b, d⟩ := w
  have h := eqv_strs [a, [c]] [b, [d]]
  show PyData.eqv (.tuple ([a, [c]].map dS)) (.tuple ([b, [d]].map dS)) = _
  rw [PyData.eqv, h]
  by_cases h1 : a = b <;> by_cases h2 : c = d <;> simp [h1, h2]
theorem dPr_lay {z : List Nat × Nat} (h : plain z.1 ∧ z.2 < 55296) : PyData.canLay0 (dPr z) = true := by
  unfold dPr
  rw [PyData.canLay0]
  exact lay_all fun e he => by
    rcases List.mem_cons.mp he with rfl | he
    · exact lay_dS h.1
    · rw [List.mem_singleton.mp he]; exact lay_dS (by simpa [plain] using h.2)
theorem dPr_dep (z : List Nat × Nat) : PyData.depth (dPr z) ≤ 1 := by
  unfold dPr
  rw [PyData.depth]
  have : PyData.depthAll [dS z.1, dS [z.2]] ≤ 0 := dep_all fun e he => by
    rcases List.mem_cons.mp he with rfl | he
    · rw [dep_dS]; exact Nat.le_refl _
    · rw [List.mem_singleton.mp he, dep_dS]; exact Nat.le_refl _
  omega
theorem any_pr (zs : List (List Nat × Nat)) (w : List Nat × Nat) : ((zs.map dPr).any fun z => PyData.eqv z (dPr w)) = decide (w ∈ zs) := by
  induction zs with
  | nil => simp
  | cons z zs ih =>
    rw [List.map_cons, List.any_cons, ih, dPr_eqv]
    by_cases h1 : z = w
    · subst h1; simp
    · by_cases h2 : w ∈ zs <;> simp [h1, h2, Ne.symm h1]
/-- a list of tuples of a text and a sign -/
def PrsAt (K : PySem.W.Frag) (H : Hp) (q : Addr) (zs : List (List Nat × Nat)) : Prop := ∃ xs, H q = some (.lst xs) ∧ xs.length = zs.length ∧ ∀ (i : Nat) x z, xs[i]? = some x → zs[i]? = some z → ∃ p, x = .ref p ∧ SqT K H p [vS z.1, vS [z.2]]
theorem s_inPr {q p : Addr} {zs : List (List Nat × Nat)} {w : List Nat × Nat} (h : PrsAt K H q zs) (hp : SqT K H p [vS w.1, vS [w.2]]) (hz : ∀ z ∈ zs, plain z.1 ∧ z.2 < 55296) (hw : plain w.1 ∧ w.2 < 55296) (k : Q (.bl (decide (w ∈ zs))) H) : rInD K (.ref p) (.ref q) H Q := by
  obtain ⟨xs, h1, h2, h3⟩ := h
  refine ⟨dPr w, zs.map dPr, .tup hp (.cons (.str _) (.cons (.str _) .nil)), .lst (SqL.of h1) (dpAll_of _ _ (by simp [h2]) fun i x e hx he => ?_), ?_, ?_, ?_⟩
  · rw [List.getElem?_map] at he
    obtain ⟨z, hz', rfl⟩ := Option.map_eq_some_iff.mp he
    obtain ⟨p', rfl, hp'⟩ := h3 i x z hx hz'
    exact .tup hp' (.cons (.str _) (.cons (.str _) .nil))
  · unfold SeqAt.shaped
    have := dPr_dep w
    exact Bool.and_eq_true_iff.mpr ⟨dPr_lay hw, decide_eq_true (by omega)⟩
  · unfold SeqAt.shaped
    refine Bool.and_eq_true_iff.mpr ⟨?_, decide_eq_true ?_⟩
    · rw [PyData.canLay0]
      exact lay_all fun e he => by obtain ⟨z, h, rfl⟩ := List.mem_map.mp he; exact dPr_lay (hz z h)
    · rw [PyData.depth]
      have : PyData.depthAll (zs.map dPr) ≤ 1 := dep_all fun e he => by obtain ⟨z, h, rfl⟩ := List.mem_map.mp he; exact dPr_dep z
      omega
  · rw [any_pr]; exact k
theorem sqT_lst {q t : Addr} {xs ys : List V} {H' : Hp} (hq : H q = some (.lst xs)) (e : Ex [q] H H') (h : SqT K H t ys) : SqT K H' t ys := by
  rcases h with (h | ⟨o, h⟩) | h
  · exact e.sqT (by simp only [List.mem_singleton]; intro w; rw [w, hq] at h; cases h) (.inl (.inl h))
  · exact e.sqT (by simp only [List.mem_singleton]; intro w; rw [w, hq] at h; cases h) (.inl (.inr ⟨o, h⟩))
  · exact .inr h
theorem PrsAt.ex0 {q : Addr} {zs : List (List Nat × Nat)} {H' : Hp} (e : Ex [] H H') (h : PrsAt K H q zs) : PrsAt K H' q zs := by
  obtain ⟨xs, h1, h2, h3⟩ := h
  refine ⟨xs, e.get0 h1, h2, fun i x z hx hz => ?_⟩
  obtain ⟨p, h4, h5⟩ := h3 i x z hx hz
  exact ⟨p, h4, e.sqT (by simp) h5⟩
theorem s_appPr {q p : Addr} {zs : List (List Nat × Nat)} {w : List Nat × Nat} (h : PrsAt K H q zs) (hp : SqT K H p [vS w.1, vS [w.2]]) (hl : zs.length ≤ 1000) (k : ∀ H2, Ex [q] H H2 → PrsAt K H2 q (zs ++ [w]) → Q .non H2) : rAppend (.ref q) [.ref p] H Q := by
  obtain ⟨xs, h1, h2, h3⟩ := h
  refine s_append h1 (by rw [h2]; exact Nat.lt_of_le_of_lt hl (by decide)) fun H2 e2 hh => k H2 e2 ⟨_, hh, by simp [h2], fun i x z hx hz => ?_⟩
  by_cases hi : i < xs.length
  · rw [List.getElem?_append_left hi] at hx
    rw [List.getElem?_append_left (by omega)] at hz
    obtain ⟨p', h4, h5⟩ := h3 i x z hx hz
    exact ⟨p', h4, sqT_lst h1 e2 h5⟩
  · rw [List.getElem?_append_right (by omega)] at hx hz
    have h0 : i - xs.length = 0 := by
      have := (List.getElem?_eq_some_iff.mp hx).1
      simp at this
      omega
    rw [show i - zs.length = 0 by omega] at hz
    rw [h0] at hx
    cases hx
    cases hz
    exact ⟨p, rfl, sqT_lst h1 e2 hp⟩
theorem pure_check_rows (h : sp_check_rows K vs H Q E) : t_check_rows K (E1 Q) (start ["signs", "states", "rows", "seen", "index", "row"] vs) H := by
  obtain ⟨s, t, u, rfl, st, rs, hs, ht, hst, hu, ⟨g1, g2, g3⟩, k⟩ := h
  obtain ⟨xs, hxs, hxl, hxp⟩ := hu
  rw [List.length_map] at hxl
  have h4 := hs.2.1
  have h6 := hst.2.1
  have hrl : rs.length ≤ 24 := by rw [g3]; exact Nat.mul_le_mul h4 h6
  have hpl : ∀ r ∈ rs, plain r.a ∧ r.c < 55296 := fun r hr => ⟨name_plain (hst.2.2.2 _ (g1 r hr).1), let_plain (isWord_in hs.1 _ (g1 r hr).2.1)⟩
  show t_check_rows K (E1 Q) [some (vS s), some (.ref t), some (.ref u), none, none, none] H
  unfold t_check_rows
  walk_at "go"
  refine s_isiK (Kd.tup hxs) (b := true) (by decide +kernel) ?_
  walk_at "go"
  rename_i q H0 nq e0 h0
  refine for_run walk_enumT (fun i σ H1 => ∃ x1 x2, σ = [some (vS s), some (.ref t), some (.ref u), some (.ref q), x1, x2] ∧ Ex [] H H1 ∧ PrsAt K H1 q ((rs.take i).map fun r => (r.a, r.c))) ⟨_, _, rfl, e0, ⟨[], h0, rfl, by simp⟩⟩ (fun i σ H1 _ ⟨_, _, _, e, _⟩ => e.sqT (by simp) hxs) ?_ ?_
  · rintro i x σ H1 H2 hi ⟨x2, x3, rfl, e1, h1⟩ ⟨T, y, z, rfl, hT, rfl, hy, hz⟩
    have hit : i < rs.length := by omega
    have hz : xs[i]? = some z := hz
    obtain ⟨p, rfl, hp⟩ := hxp i z (rwV rs[i]) hz (by rw [List.getElem?_map, List.getElem?_eq_getElem hit]; rfl)
    cases hy
    have e2 : Ex [] H1 (upd H1 T (.tup [.int (i : Nat), .ref p])) := Ex.new hT
    have h2 : (upd H1 T (.tup [.int (i : Nat), .ref p])) T = some (.tup [.int (i : Nat), .ref p]) := upd_same
    revert e2 h2
    generalize upd H1 T (.tup [.int (i : Nat), .ref p]) = H3
    intro e2 h2
    have hg := g1 _ (List.getElem_mem hit)
    have hc2 : cutV (rwV rs[i]) none (some 2) = [vS rs[i].a, vS [rs[i].c]] := by rw [cutV_to (by omega)]; rfl
    walk_at "go"
    refine u_is_step (r := rs[i]) (st := st) ((e1.trans e2).sqT (by simp) hp) ((e1.trans e2).sqT (by simp) ht) hg.1 hg.2.1 hg.2.2 fun H4 e4 => ?_
    walk_at "go"
    refine s_slA (xs := rwV rs[i]) (((e1.trans e2).trans e4).sqT (by simp) hp) fun q5 H5 e5 hs5 => ?_
    rw [hc2] at hs5
    walk_at "go"
    refine s_inPr (w := (rs[i].a, rs[i].c)) (((h1.ex0 e2).ex0 e4).ex0 e5) hs5 (fun z hz => ?_) (hpl _ (List.getElem_mem hit)) ?_
    · obtain ⟨r, hr, rfl⟩ := List.mem_map.mp hz
      exact hpl r (List.mem_of_mem_take hr)
    rw [decide_eq_false (show (rs[i].a, rs[i].c) ∉ (rs.take i).map fun r => (r.a, r.c) from fun z => by
      rw [List.map_take] at z
      have := not_mem_take g2 (i := i) (by rw [List.length_map]; exact hit)
      rw [List.getElem_map] at this
      exact this z)]
    obtain ⟨xq, hxq, _⟩ := id (((h1.ex0 e2).ex0 e4).ex0 e5)
    walk_at "go"
    refine s_slA (xs := rwV rs[i]) ((((e1.trans e2).trans e4).trans e5).sqT (by simp) hp) fun q6 H6 e6 hs6 => ?_
    rw [hc2] at hs6
    walk_at "go"
    refine s_appPr (w := (rs[i].a, rs[i].c)) ((((h1.ex0 e2).ex0 e4).ex0 e5).ex0 e6) hs6 (by rw [List.length_map, List.length_take]; omega) fun H7 e7 h7 => ?_
    refine ⟨_, _, rfl, Ex.drop nq ((((e1.trans e2).trans e4).trans e5).trans e6) e7, ?_⟩
    rw [take1 _ hit]
    exact h7
  · rintro σ H1 ⟨x2, x3, rfl, e1, _⟩
    walk_at "go"
    refine s_Fd (by rw [List.length_map, hxl, g3, Int.natCast_mul]; exact Int.lt_irrefl _) ?_
    exact k _ e1
def sp_place_of (K : PySem.W.Frag) : Sp := fun vs H Q _ => ∃ i n b : Int, vs = [.int i, .int n, .int b] ∧ b < n ∧ Q (.int (if i < n then i else b + (i - b) % (n - b))) H
theorem pure_place_of (h : sp_place_of K vs H Q E) : t_place_of K (E1 Q) (start ["at", "size", "begin"] vs) H := by
  obtain ⟨i, n, b, rfl, hb, k⟩ := h
  show t_place_of K (E1 Q) [some (.int i), some (.int n), some (.int b)] H
  unfold t_place_of
  walk_at "go"
  by_cases h : i < n
  · refine s_Td h ?_
    walk_at "go"
    rw [if_pos h] at k
    exact k
  · refine s_Fd h ?_
    walk_at "go"
    rw [if_neg h] at k
    exact k
end
end WB
namespace WB
open PySem PySem.Spec PyProof.Rows L2
def kS (l : List Nat) : Key := .inr (S l)
theorem kS_inj {a b : List Nat} (h : kS a = kS b) : a = b := S_inj (Sum.inr.inj h)
/-! ### what stands for a loop -/
/-- a table by state and sign -/
def TabOk (K : PySem.W.Frag) (H : Hp) (kt : List (List Key × V)) (M : LM) : Prop := ∀ a ∈ M.st, ∀ c ∈ M.ab, ∃ p, valV kt [kS a, kS [c]] = some (.ref p) ∧ SqT K H p [vS (M.tb a c).1, .int (M.tb a c).2]
def EndOk (K : PySem.W.Frag) (H : Hp) (ke : List (Key × V)) (M : LM) : Prop := ∀ a ∈ M.st, ∃ p, valV ke (kS a) = some (.ref p) ∧ SqT K H p [vS (M.en a).1, .int (M.en a).2]
def LoopAt (K : PySem.W.Frag) (H : Hp) (x : Addr) (M : LM) : Prop := ∃ dx o tt te tm kt ke, H x = some (.ins (He.ga K "Loop") dx [("letters", vS M.ab), ("order", .ref o), ("table", .ref tt), ("ending", .ref te), ("marked", .ref tm)]) ∧
  SqT K H o (M.st.map vS) ∧ H tt = some (.dT kt) ∧ TabOk K H kt M ∧ H te = some (.dK ke) ∧ EndOk K H ke M ∧ SqT K H tm (M.ok.map vS)
structure LoopK (K : PySem.W.Frag) : Prop where
  cl : Cls K (He.ga K "Loop")
  n1 : NoAttr K (He.ga K "Loop") "letters"
  n2 : NoAttr K (He.ga K "Loop") "order"
  n3 : NoAttr K (He.ga K "Loop") "table"
  n4 : NoAttr K (He.ga K "Loop") "ending"
  n5 : NoAttr K (He.ga K "Loop") "marked"
section
variable {K : PySem.W.Frag} {H H' : Hp} {Q : VK} {E : XK} {x a : Addr} {M : LM}
theorem TabOk.ex0 {kt : List (List Key × V)} (e : Ex [] H H') (h : TabOk K H kt M) : TabOk K H' kt M := fun a ha c hc => by
  obtain ⟨p, h1, h2⟩ := h a ha c hc
  exact ⟨p, h1, e.sqT (by simp) h2⟩
theorem EndOk.ex0 {ke : List (Key × V)} (e : Ex [] H H') (h : EndOk K H ke M) : EndOk K H' ke M := fun a ha => by
  obtain ⟨p, h1, h2⟩ := h a ha
  exact ⟨p, h1, e.sqT (by simp) h2⟩
theorem TabOk.exP {kt : List (List Key × V)} (hp : PoolAt H a) (e : Ex [a] H H') (h : TabOk K H kt M) : TabOk K H' kt M := fun b hb c hc => by
  obtain ⟨p, h1, h2⟩ := h b hb c hc
  exact ⟨p, h1, sqT_pool hp e h2⟩
theorem EndOk.exP {ke : List (Key × V)} (hp : PoolAt H a) (e : Ex [a] H H') (h : EndOk K H ke M) : EndOk K H' ke M := fun b hb => by
  obtain ⟨p, h1, h2⟩ := h b hb
  exact ⟨p, h1, sqT_pool hp e h2⟩
theorem LoopAt.ex0 (e : Ex [] H H') (h : LoopAt K H x M) : LoopAt K H' x M := by
  obtain ⟨dx, o, tt, te, tm, kt, ke, h1, h2, h3, h4, h5, h6, h7⟩ := h
  exact ⟨dx, o, tt, te, tm, kt, ke, e.get0 h1, e.sqT (by simp) h2, e.get0 h3, h4.ex0 e, e.get0 h5, h6.ex0 e, e.sqT (by simp) h7⟩
theorem LoopAt.exP (hp : PoolAt H a) (e : Ex [a] H H') (h : LoopAt K H x M) : LoopAt K H' x M := by
  obtain ⟨dx, o, tt, te, tm, kt, ke, h1, h2, h3, h4, h5, h6, h7⟩ := h
  have hq := hp
  obtain ⟨y1, y2, y3, hq⟩ := hq
  exact ⟨dx, o, tt, te, tm, kt, ke, e.get (by simp only [List.mem_singleton]; intro w; rw [w, hq] at h1; cases h1) h1, sqT_pool hp e h2, e.get (by simp only [List.mem_singleton]; intro w; rw [w, hq] at h3; cases h3) h3, h4.exP hp e, e.get (by simp only [List.mem_singleton]; intro w; rw [w, hq] at h5; cases h5) h5, h6.exP hp e, sqT_pool hp e h7⟩
/-! ### dict comprehensions -/
def DcTW (J : It) (g : TG) (tt : TT) (tk tv : TE) (vs : List Nat) (σ : St) (H1 : Hp) (Q : VK) : Prop := ∀ D, H1 D = none → ∃ W : Nat → Nat → Hp → Prop, (∃ m, W 0 m (upd H1 D (.dT []))) ∧ ∀ i m H, W i m H →
  (J.stop i H ∧ Q (.ref D) H) ∨ (J.go i H ∧ ∃ Nx : Hp → Prop, (∀ H', Nx H' → ∃ m', m' < m ∧ W (i + 1) m' H') ∧ ∀ x H', J.yld i H x H' → g x (wipe σ vs) H' fun σ2 H2 => wipe σ2 vs = wipe σ vs ∧ tt σ2 H2 fun c H3 =>
    if c = true then tk σ2 H3 fun y H4 => tv σ2 H4 fun z H5 => ∃ kvs k b, y = .ref b ∧ H5 b = some (.tup (k.map kV)) ∧ H5 D = some (.dT kvs) ∧ kvs.length < sizeLine ∧ Nx (upd H5 D (.dT (putK kvs k z))) else Nx H3)
theorem s_dcT {wi : TI} {g : TG} {tt : TT} {tk tv : TE} {vs : List Nat} {σ : St} (k : wi σ H fun J H1 => DcTW J g tt tk tv vs σ H1 Q) : tDcT wi g tt tk tv vs σ H Q := k
def DcW (J : It) (g : TG) (tt : TT) (tk tv : TE) (vs : List Nat) (σ : St) (H1 : Hp) (Q : VK) : Prop := ∀ D, H1 D = none → ∃ W : Nat → Nat → Hp → Prop, (∃ m, W 0 m (upd H1 D (.dK []))) ∧ ∀ i m H, W i m H →
  (J.stop i H ∧ Q (.ref D) H) ∨ (J.go i H ∧ ∃ Nx : Hp → Prop, (∀ H', Nx H' → ∃ m', m' < m ∧ W (i + 1) m' H') ∧ ∀ x H', J.yld i H x H' → g x (wipe σ vs) H' fun σ2 H2 => wipe σ2 vs = wipe σ vs ∧ tt σ2 H2 fun c H3 =>
    if c = true then tk σ2 H3 fun y H4 => tv σ2 H4 fun z H5 => ∃ kvs k, y = kV k ∧ H5 D = some (.dK kvs) ∧ kvs.length < sizeLine ∧ Nx (upd H5 D (.dK (putK kvs k z))) else Nx H3)
theorem s_dc {wi : TI} {g : TG} {tt : TT} {tk tv : TE} {vs : List Nat} {σ : St} (k : wi σ H fun J H1 => DcW J g tt tk tv vs σ H1 Q) : tDc wi g tt tk tv vs σ H Q := k
theorem dcT_it {J : It} {n : Nat} {G : Hp → Prop} {Y : Nat → Hp → V → Hp → Prop} (w : Walk J n G Y) {g : TG} {tt : TT} {tk tv : TE} {vs : List Nat} {σ : St} (Pv : Addr → Nat → Hp → Prop) (h0 : ∀ D, H D = none → Pv D 0 (upd H D (.dT []))) (hG : ∀ D i H1, i ≤ n → Pv D i H1 → G H1)
    (hs : ∀ D i x H1 H2, i < n → Pv D i H1 → Y i H1 x H2 → g x (wipe σ vs) H2 fun σ2 H2 => wipe σ2 vs = wipe σ vs ∧ tt σ2 H2 fun c H3 =>
      if c = true then tk σ2 H3 fun y H4 => tv σ2 H4 fun z H5 => ∃ kvs k b, y = .ref b ∧ H5 b = some (.tup (k.map kV)) ∧ H5 D = some (.dT kvs) ∧ kvs.length < sizeLine ∧ Pv D (i + 1) (upd H5 D (.dT (putK kvs k z))) else Pv D (i + 1) H3)
    (hd : ∀ D H1, H D = none → Pv D n H1 → Q (.ref D) H1) : DcTW J g tt tk tv vs σ H Q := by
  intro D hD
  refine ⟨fun i m H => m = n - i ∧ i ≤ n ∧ Pv D i H, ⟨n, by simp, Nat.zero_le _, h0 D hD⟩, ?_⟩
  rintro i m H1 ⟨rfl, hi, p⟩
  rcases Nat.lt_or_ge i n with h | h
  · exact .inr ⟨w.goes i H1 h (hG D i H1 hi p), fun H' => Pv D (i + 1) H', fun H' p' => ⟨n - (i + 1), by omega, rfl, by omega, p'⟩, fun x H' y => hs D i x H1 H' h p (w.yields i H1 x H' h (hG D i H1 hi p) y)⟩
  · have : i = n := by omega
    subst this
    exact .inl ⟨w.stops H1 (hG D _ H1 hi p), hd D H1 hD p⟩
theorem dc_it {J : It} {n : Nat} {G : Hp → Prop} {Y : Nat → Hp → V → Hp → Prop} (w : Walk J n G Y) {g : TG} {tt : TT} {tk tv : TE} {vs : List Nat} {σ : St} (Pv : Addr → Nat → Hp → Prop) (h0 : ∀ D, H D = none → Pv D 0 (upd H D (.dK []))) (hG : ∀ D i H1, i ≤ n → Pv D i H1 → G H1)
    (hs : ∀ D i x H1 H2, i < n → Pv D i H1 → Y i H1 x H2 → g x (wipe σ vs) H2 fun σ2 H2 => wipe σ2 vs = wipe σ vs ∧ tt σ2 H2 fun c H3 =>
      if c = true then tk σ2 H3 fun y H4 => tv σ2 H4 fun z H5 => ∃ kvs k, y = kV k ∧ H5 D = some (.dK kvs) ∧ kvs.length < sizeLine ∧ Pv D (i + 1) (upd H5 D (.dK (putK kvs k z))) else Pv D (i + 1) H3)
    (hd : ∀ D H1, H D = none → Pv D n H1 → Q (.ref D) H1) : DcW J g tt tk tv vs σ H Q := by
  intro D hD
  refine ⟨fun i m H => m = n - i ∧ i ≤ n ∧ Pv D i H, ⟨n, by simp, Nat.zero_le _, h0 D hD⟩, ?_⟩
  rintro i m H1 ⟨rfl, hi, p⟩
  rcases Nat.lt_or_ge i n with h | h
  · exact .inr ⟨w.goes i H1 h (hG D i H1 hi p), fun H' => Pv D (i + 1) H', fun H' p' => ⟨n - (i + 1), by omega, rfl, by omega, p'⟩, fun x H' y => hs D i x H1 H' h p (w.yields i H1 x H' h (hG D i H1 hi p) y)⟩
  · have : i = n := by omega
    subst this
    exact .inl ⟨w.stops H1 (hG D _ H1 hi p), hd D H1 hD p⟩
/-! ### made from rows and turns -/
def tbOf (rs : List Rw) (a : List Nat) (c : Nat) : List Nat × Int := ((rs.find? fun r => decide (r.a = a ∧ r.c = c)).map fun r => (r.b, r.n)).getD (a, 0)
def enOf (ts : List Tn) (a : List Nat) : List Nat × Int := ((ts.find? fun t => decide (t.a = a)).map fun t => (t.b, t.n)).getD (a, 0)
def mkLM (s : List Nat) (st : List (List Nat)) (rs : List Rw) (ts : List Tn) (ys : List (List Nat)) : LM := ⟨sgn s, st, tbOf rs, enOf ts, st.filter fun a => decide (a ∈ ys)⟩
def sp_Loop_init (K : PySem.W.Frag) : Sp := fun vs H Q _ => ∃ (x : Addr) (s : List Nat) (t u v w dx : Addr), vs = [.ref x, vS s, .ref t, .ref u, .ref v, .ref w] ∧ H x = some (.ins (He.ga K "Loop") dx []) ∧
  ∃ (st : List (List Nat)) (rs : List Rw) (ts : List Tn) (ys : List (List Nat)), goodS s ∧ SqT K H t (st.map vS) ∧ goodSt st ∧ TupsAt K H u (rs.map rwV) ∧ goodRws s st rs ∧ TupsAt K H v (ts.map tnV) ∧ goodTns st ts ∧ SqT K H w (ys.map vS) ∧ goodYes st ys ∧
  ∀ H', Ex [x] H H' → LoopAt K H' x (mkLM s st rs ts ys) → Q .non H'
end
end WB
namespace WB
open PySem PySem.Spec PyProof.Rows L2
local macro_rules | `(tactic| walk_at "lit") => `(tactic| first | exact lit_abc | exact lit_empty)
local macro_rules | `(tactic| walk_at "nm") => `(tactic| focus first | exact List.not_mem_nil | (simp only [List.mem_singleton]; first | assumption | (exact Ne.symm (by assumption)) | (intro hz; subst hz; simp_all; done)))
local macro_rules | `(tactic| walk_at "hp") => `(tactic| first | assumption | (apply Ex.get0 (by assumption); walk_at "hp") | (apply Ex.get (by assumption); (walk_at "nm"); (walk_at "hp")))
local macro_rules | `(tactic| walk_at "sq") => `(tactic| first | assumption | (apply SqL.of; walk_at "hp") | (apply Ex.sqL (by assumption); (walk_at "nm"); (walk_at "sq")))
local macro_rules | `(tactic| walk_at "sqt") => `(tactic| first | assumption | (apply SqT.of; walk_at "hp") | (apply Ex.sqT (by assumption); (walk_at "nm"); (walk_at "sqt")))
local macro_rules | `(tactic| walk_at "sz") => `(tactic| focus ((with_reducible refine Nat.le_trans (m := 100000) ?_ (by decide)); first | omega | (simp; done) | (simp; omega)))
local macro_rules | `(tactic| walk_at "mul") => `(tactic| first | exact Or.inr ⟨by omega, by omega⟩ | exact Or.inl ⟨by omega, by omega⟩)
local macro_rules | `(tactic| walk_at "pool") => `(tactic| first | assumption | (apply PoolAt.ex (by assumption); (walk_at "nm"); (walk_at "pool")))
local macro_rules | `(tactic| walk_at "ring") => `(tactic| first | assumption | (apply RingAt.ex (by assumption); (walk_at "nm"); (walk_at "ring")))
local macro_rules | `(tactic| walk_at "st") => `(tactic| first
  | with_reducible refine s_seq ?_
  | with_reducible refine s_asg ?_
  | with_reducible refine s_gName ?_
  | with_reducible refine s_ret ?_
  | with_reducible refine s_ifS ?_
  | with_reducible refine s_next ?_
  | with_reducible refine s_op ?_
  | ((with_reducible apply s_var); exact rfl)
  | ((with_reducible apply s_cS); (walk_at "lit"))
  | with_reducible refine s_c ?_
  | with_reducible refine s_cb ?_
  | with_reducible refine s_cons ?_
  | with_reducible refine s_nil ?_
  | with_reducible refine s_un ?_
  | with_reducible refine s_call ?_
  | with_reducible refine s_test ?_
  | with_reducible refine s_tB ?_
  | with_reducible refine s_blQ ?_
  | with_reducible refine s_not ?_
  | with_reducible refine s_and ?_
  | with_reducible refine s_or ?_
  | with_reducible refine s_andV ?_
  | with_reducible refine s_orV ?_
  | with_reducible refine s_notV ?_
  | with_reducible refine s_ifE ?_
  | with_reducible refine s_chain ?_
  | ((with_reducible refine s_T ?_ ?_); (with_reducible exact rfl))
  | with_reducible refine s_nT ?_
  | with_reducible refine s_nF ?_
  | ((with_reducible refine s_F ?_ ?_); (with_reducible exact rfl))
  | ((with_reducible refine s_T ?_ ?_); assumption)
  | ((with_reducible refine s_F ?_ ?_); assumption)
  | ((with_reducible refine s_nB ?_ ?_); assumption)
  | ((with_reducible refine s_nA ?_ ?_); assumption)
  | ((with_reducible refine s_Td ?_ ?_); omega)
  | ((with_reducible refine s_Fd ?_ ?_); omega)
  | ((with_reducible refine s_nTd ?_ ?_); omega)
  | ((with_reducible refine s_nFd ?_ ?_); omega)
  | with_reducible refine s_sfld ?_
  | with_reducible refine s_addI ?_
  | with_reducible refine s_subI ?_
  | ((with_reducible refine s_mulI ?_ ?_); (walk_at "mul"))
  | ((with_reducible refine s_divI ?_ ?_); exact ⟨by omega, by omega⟩)
  | ((with_reducible refine s_modI ?_ ?_); omega)
  | ((with_reducible refine s_powI ?_ ?_); exact ⟨by decide, by decide, by decide⟩)
  | with_reducible refine s_ltI ?_
  | with_reducible refine s_leI ?_
  | with_reducible refine s_gtI ?_
  | with_reducible refine s_geI ?_
  | with_reducible refine s_negI ?_
  | with_reducible refine s_absI ?_
  | with_reducible refine s_intI ?_
  | with_reducible refine s_min2 ?_
  | with_reducible refine s_max2 ?_
  | with_reducible refine s_eqI ?_
  | with_reducible refine s_neI ?_
  | with_reducible refine s_eqS ?_
  | with_reducible refine s_neS ?_
  | with_reducible refine s_inSg ?_
  | with_reducible refine s_notInSg ?_
  | ((with_reducible refine s_addS ?_ ?_); (walk_at "sz"))
  | ((with_reducible refine s_lenS ?_ ?_); (walk_at "sz"))
  | ((with_reducible apply s_lenL); (walk_at "sq"))
  | ((with_reducible apply s_lenT); (walk_at "sqt"))
  | ((with_reducible apply s_ixL); (walk_at "sq"); exact rfl)
  | ((with_reducible apply s_ixT); (walk_at "sqt"); exact rfl)
  | with_reducible refine s_gSub ?_
  | ((with_reducible apply s_setL); (walk_at "hp"); (exact rfl); (intro _ _ _))
  | ((with_reducible refine s_alloc ?_ ?_); (walk_at "sz"); (intro _ _ _ _ _))
  | ((with_reducible refine s_divmod ?_ ?_); (exact ⟨by omega, PyProof.noPylong_small (by omega)⟩); (intro _ _ _ _ _))
  | ((with_reducible apply s_gTup); (walk_at "sqt"); (exact rfl))
  | ((with_reducible apply s_gLst); (walk_at "sq"); (exact rfl))
  | with_reducible refine s_gCons ?_
  | with_reducible refine s_gNil ?_
  | with_reducible refine s_lc ?_
  | ((with_reducible apply s_cat); (walk_at "hp"); (walk_at "hp"); (walk_at "sz"); (intro _ _ _ _ _))
  | ((with_reducible apply s_slL); (walk_at "sq"); (intro _ _ _ _ _))
  | with_reducible refine s_for ?_
  | with_reducible refine s_rng1 ?_
  | ((with_reducible refine s_rng1i ?_ ?_); (constructor <;> omega))
  | with_reducible refine s_rng2 ?_
  | ((with_reducible refine s_rng2i ?_ ?_); (refine ⟨?_, ?_, ?_, ?_⟩ <;> omega))
  | with_reducible refine s_iStr ?_
  | with_reducible refine s_iStrS ?_
  | with_reducible refine s_iList ?_
  | ((with_reducible apply s_iListA); (walk_at "sq"))
  | with_reducible refine s_iTup ?_
  | ((with_reducible apply s_iTupA); (walk_at "sqt"))
  | with_reducible refine s_sl ?_
  | with_reducible refine s_noPart ?_
  | with_reducible refine s_part ?_
  | with_reducible refine s_int1 ?_
  | ((with_reducible refine s_slS ?_ ?_); (walk_at "sz"))
  | with_reducible refine s_tup ?_
  | with_reducible refine s_lst ?_
  | with_reducible refine s_par ?_
  | with_reducible refine s_pair ?_
  | with_reducible refine s_M1 ?_
  | with_reducible refine s_isStr ?_
  | with_reducible refine s_revS ?_
  | ((with_reducible refine s_revS1 ?_ ?_); (walk_at "sz"))
  | with_reducible refine s_fldE ?_
  | with_reducible refine s_propE ?_
  | ((with_reducible refine u_draw ?_ ?_ ?_ ?_); omega; omega; (walk_at "pool"); (intro _ _ _ _ _ _))
  | ((with_reducible refine u_pool ?_); (intro _ _ _ _ _))
  | with_reducible refine u_is_integer ?_
  | with_reducible refine s_isiII ?_
  | with_reducible refine s_isiIB ?_
  | with_reducible refine s_isiSS ?_
  | ((with_reducible apply u_fldRing); assumption; (walk_at "ring"))
  | ((with_reducible apply u_textP); (walk_at "ring"))
  | ((with_reducible apply u_strRing); (walk_at "ring"))
  | ((with_reducible apply u_eqRing); (walk_at "ring"); (walk_at "ring"))
  | ((with_reducible apply u_isiRing); assumption; (walk_at "ring"))
  | ((with_reducible refine u_is_word ?_ ?_); omega; (intro _ _))
  | ((with_reducible refine u_turnings ?_ ?_); omega; (intro _ _ _ _ _))
  | with_reducible refine s_makeE ?_
  | with_reducible refine s_methE ?_)
local macro_rules | `(tactic| walk_at "go") => `(tactic| repeat (walk_at "st"))
local macro_rules | `(tactic| walk_at "exs") => `(tactic| first | exact Ex.rfl | assumption | (apply Ex.snoc (by assumption); walk_at "exs") | (apply Ex.snocW (by assumption); walk_at "exs"))
local macro_rules | `(tactic| walk_at "kind") => `(tactic| first | assumption | (apply KindAt.ex0 (by assumption); (walk_at "kind")) | (apply KindAt.exP (by assumption) (by assumption); (walk_at "kind")))
local macro_rules | `(tactic| walk_at "st") => `(tactic| first
  | with_reducible refine s_lenSet ?_
  | with_reducible refine s_drop ?_
  | with_reducible refine s_bm ?_
  | with_reducible refine s_notN ?_
  | with_reducible refine s_isN ?_
  | ((with_reducible apply s_tyL); (walk_at "hp"))
  | with_reducible refine s_enumT ?_
  | ((with_reducible apply s_enumTA); (walk_at "sqt"))
  | with_reducible refine s_lc2 ?_)
local macro_rules | `(tactic| walk_at "lit") => `(tactic| exact lit_MRK)
local macro_rules | `(tactic| walk_at "st") => `(tactic| first
  | with_reducible refine s_dcT ?_
  | with_reducible refine s_dc ?_)
/-- Loop.__init__: 0 self 1 signs 2 states 3 rows 4 turns 5 yes 6 state 7 sign 8 later 9 amount 10 given -/
def t_Loop_init (K : PySem.W.Frag) : TS :=
  (tSeq (tDrop (tCall (sp_check_signs K) [] E0 (tCons (tVar 1) tNil)))
  (tSeq (tDrop (tCall (sp_check_states K) [] E0 (tCons (tVar 2) tNil)))
  (tSeq (tDrop (tCall (sp_check_rows K) [] E0 (tCons (tVar 1) (tCons (tVar 2) (tCons (tVar 3) tNil)))))
  (tSeq (tDrop (tCall (sp_check_turns K) [] E0 (tCons (tVar 2) (tCons (tVar 4) tNil))))
  (tSeq (tDrop (tCall (sp_check_yes K) [] E0 (tCons (tVar 2) (tCons (tVar 5) tNil))))
  (tSeq (sFld K (tVar 0) (tM1 (rJoin K) (tC (.str "")) (tCB (rSrt K) (tCons (tVar 1) tNil))) "letters")
  (tSeq (sFld K (tVar 0) (tVar 2) "order")
  (tSeq (sFld K (tVar 0) (tDcT (iTup K (tVar 3)) (gTup K 4 (gCons (gName 6) (gCons (gName 7) (gCons (gName 8) (gCons (gName 9) gNil))))) tYes (tTup (tCons (tVar 6) (tCons (tVar 7) tNil))) (tTup (tCons (tVar 8) (tCons (tVar 9) tNil))) [6, 7, 8, 9]) "table")
  (tSeq (tAsg (tDc (iTup K (tVar 4)) (gTup K 3 (gCons (gName 6) (gCons (gName 8) (gCons (gName 9) gNil)))) tYes (tVar 6) (tTup (tCons (tVar 8) (tCons (tVar 9) tNil))) [6, 8, 9]) (gName 10))
  (tSeq (sFld K (tVar 0) (tDc (iTup K (tVar 2)) (gName 6) tYes (tVar 6) (tDGet2 (tVar 10) (tVar 6) (tTup (tCons (tVar 6) (tCons (tC (.int 0)) tNil)))) [6]) "ending")
  (sFld K (tVar 0) (tCB (rTupOf K) (tCons (tLc (iTup K (tVar 2)) (gName 6) (tTest (tOp (rIn K false) (tVar 6) (tVar 5))) (tVar 6) [6]) tNil)) "marked")))))))))))
section
variable {K : PySem.W.Frag} {vs : List V} {H H' : Hp} {Q : VK} {E : XK}
theorem sqT_ins {x t C dx : Addr} {fs : List (Str × V)} {ys : List V} (hx : H x = some (.ins C dx fs)) (e : Ex [x] H H') (h : SqT K H t ys) : SqT K H' t ys := by
  rcases h with (h | ⟨o, h⟩) | h
  · exact e.sqT (by simp only [List.mem_singleton]; intro w; rw [w, hx] at h; cases h) (.inl (.inl h))
  · exact e.sqT (by simp only [List.mem_singleton]; intro w; rw [w, hx] at h; cases h) (.inl (.inr ⟨o, h⟩))
  · exact .inr h
theorem TupsAt.exI {x t C dx : Addr} {fs : List (Str × V)} {ls : List (List V)} (hx : H x = some (.ins C dx fs)) (e : Ex [x] H H') (h : TupsAt K H t ls) : TupsAt K H' t ls := by
  obtain ⟨xs, h1, h2, h3⟩ := h
  refine ⟨xs, sqT_ins hx e h1, h2, fun i y l hy hl => ?_⟩
  obtain ⟨p, h4, h5⟩ := h3 i y l hy hl
  exact ⟨p, h4, sqT_ins hx e h5⟩
theorem s_setF {f : Str} {y : V} {n : Hp → Prop} {x C dx : Addr} {fs : List (Str × V)} (hx : H x = some (.ins C dx fs)) (c : Cls K C) (na : NoAttr K C f) (hl : fs.length < 30) (k : ∀ H', Ex [x] H H' → H' x = some (.ins C dx (putF f y fs)) → n H') : SetG K f y (.ref x) H n :=
  ⟨x, _, dx, _, rfl, hx, c, na, by first | exact hl | omega, k _ (Ex.put (by simp)) upd_same⟩
/-- the table, as far as it is -/
def TabR (K : PySem.W.Frag) (H : Hp) (kvs : List (List Key × V)) (rs : List Rw) : Prop := ∀ r ∈ rs, ∃ p, valV kvs [kS r.a, kS [r.c]] = some (.ref p) ∧ SqT K H p [vS r.b, .int r.n]
def EndR (K : PySem.W.Frag) (H : Hp) (kvs : List (Key × V)) (ts : List Tn) : Prop := ∀ t ∈ ts, ∃ p, valV kvs (kS t.a) = some (.ref p) ∧ SqT K H p [vS t.b, .int t.n]
theorem key2 {a b : List Nat} {c d : Nat} (h : [kS a, kS [c]] = [kS b, kS [d]]) : a = b ∧ c = d := by
  injection h with h1 h2
  injection h2 with h2 _
  have := kS_inj h2
  exact ⟨kS_inj h1, by simpa using this⟩
theorem tab_all {s : List Nat} {st : List (List Nat)} {rs : List Rw} (h : goodRws s st rs) {a : List Nat} {c : Nat} (ha : a ∈ st) (hc : c ∈ s) : ∃ r ∈ rs, r.a = a ∧ r.c = c := by
  obtain ⟨g1, g2, g3⟩ := h
  have hp := perm_of_sub (rs.map fun r => (r.a, r.c)) (st.flatMap fun a => s.map fun c => (a, c)) g2 (fun p hp => by
    obtain ⟨r, hr, rfl⟩ := List.mem_map.mp hp
    exact List.mem_flatMap.mpr ⟨r.a, (g1 r hr).1, List.mem_map.mpr ⟨r.c, (g1 r hr).2.1, rfl⟩⟩) (by
    rw [List.length_map, g3, List.length_flatMap]
    simp only [List.length_map]
    have : ∀ (l : List (List Nat)) (n : Nat), (l.map fun _ => n).sum = l.length * n := by
      intro l n
      induction l with
      | nil => simp
      | cons x l ih => rw [List.map_cons, List.sum_cons, ih, List.length_cons, Nat.succ_mul]; omega
    rw [this, Nat.mul_comm]
    exact Nat.le_refl _)
  have := hp.mem_iff.mpr (List.mem_flatMap.mpr ⟨a, ha, List.mem_map.mpr ⟨c, hc, rfl⟩⟩)
  obtain ⟨r, hr, e⟩ := List.mem_map.mp this
  injection e with e1 e2
  exact ⟨r, hr, e1, e2⟩
theorem tb_of {rs : List Rw} (g2 : (rs.map fun r => (r.a, r.c)).Nodup) : ∀ {r : Rw}, r ∈ rs → tbOf rs r.a r.c = (r.b, r.n) := by
  induction rs with
  | nil => intro r h; cases h
  | cons x rs ih =>
    intro r h
    obtain ⟨h1, h2⟩ := List.nodup_cons.mp g2
    unfold tbOf
    rw [List.find?_cons]
    rcases List.mem_cons.mp h with rfl | h
    · simp
    · have : ¬ (x.a = r.a ∧ x.c = r.c) := fun z => h1 (List.mem_map.mpr ⟨r, h, by simp only [z.1, z.2]⟩)
      rw [decide_eq_false this]
      exact ih h2 h
theorem en_of {ts : List Tn} (g2 : (ts.map fun t => t.a).Nodup) : ∀ {t : Tn}, t ∈ ts → enOf ts t.a = (t.b, t.n) := by
  induction ts with
  | nil => intro r h; cases h
  | cons x ts ih =>
    intro r h
    obtain ⟨h1, h2⟩ := List.nodup_cons.mp g2
    unfold enOf
    rw [List.find?_cons]
    rcases List.mem_cons.mp h with rfl | h
    · simp
    · have : ¬ (x.a = r.a) := fun z => h1 (List.mem_map.mpr ⟨r, h, z.symm⟩)
      rw [decide_eq_false this]
      exact ih h2 h
theorem en_no {ts : List Tn} {a : List Nat} (h : a ∉ ts.map fun t => t.a) : enOf ts a = (a, 0) := by
  unfold enOf
  rw [List.find?_eq_none.mpr fun t ht => by
    simp only [decide_eq_true_eq]
    exact fun z => h (List.mem_map.mpr ⟨t, ht, z⟩)]
  rfl
theorem upd_TabR {D : Addr} {o : HO} {kvs : List (List Key × V)} {rs : List Rw} (h1 : ∃ ks, H D = some (.dT ks)) (h : TabR K H kvs rs) : TabR K (upd H D o) kvs rs := fun r hr => by
  obtain ⟨p, h2, h3⟩ := h r hr
  obtain ⟨ks, h1⟩ := h1
  refine ⟨p, h2, ?_⟩
  have e : Ex [D] H (upd H D o) := Ex.put (by simp)
  rcases h3 with (h | ⟨ob, h⟩) | h
  · exact e.sqT (by simp only [List.mem_singleton]; intro w; rw [w, h1] at h; cases h) (.inl (.inl h))
  · exact e.sqT (by simp only [List.mem_singleton]; intro w; rw [w, h1] at h; cases h) (.inl (.inr ⟨ob, h⟩))
  · exact .inr h
theorem dc_table {u : Addr} {rs : List Rw} {σ : St} {a1 a2 a3 a4 : Nat} (τ : V → V → V → V → St)
    (hτ : ∀ A B C D, ((((wipe σ [a1, a2, a3, a4]).set a1 (some A)).set a2 (some B)).set a3 (some C)).set a4 (some D) = τ A B C D) (hw : ∀ A B C D, wipe (τ A B C D) [a1, a2, a3, a4] = wipe σ [a1, a2, a3, a4])
    (l1 : ∀ A B C D, (τ A B C D)[a1]? = some (some A)) (l2 : ∀ A B C D, (τ A B C D)[a2]? = some (some B)) (l3 : ∀ A B C D, (τ A B C D)[a3]? = some (some C)) (l4 : ∀ A B C D, (τ A B C D)[a4]? = some (some D))
    (hu : TupsAt K H u (rs.map rwV)) (hn : rs.length ≤ 1000) (g2 : (rs.map fun r => (r.a, r.c)).Nodup)
    (k : ∀ D H' kvs, H D = none → Ex [] H H' → H' D = some (.dT kvs) → TabR K H' kvs rs → Q (.ref D) H') :
    ∃ b, V.ref u = .ref b ∧ (∃ xs, SqT K H b xs) ∧ DcTW (Itt K b) (gTup K 4 (gCons (gName a1) (gCons (gName a2) (gCons (gName a3) (gCons (gName a4) gNil))))) tYes (tTup (tCons (tVar a1) (tCons (tVar a2) tNil))) (tTup (tCons (tVar a3) (tCons (tVar a4) tNil))) [a1, a2, a3, a4] σ H Q := by
  obtain ⟨xs, hxs, hxl, hxp⟩ := hu
  rw [List.length_map] at hxl
  refine ⟨u, rfl, ⟨xs, hxs⟩, dcT_it (walk_tup (xs := xs)) (fun D i H1 => Ex [] H H1 ∧ H D = none ∧ ∃ kvs, H1 D = some (.dT kvs) ∧ kvs.length ≤ i ∧ TabR K H1 kvs (rs.take i)) (fun D hD => ⟨Ex.new hD, hD, [], upd_same, Nat.le_refl _, by intro r hr; simp at hr⟩) (fun D i H1 _ h => h.1.sqT (by simp) hxs) ?_ ?_⟩
  · rintro D i x H1 H2 hi ⟨e1, hD, kvs, h1, hl, ht⟩ ⟨rfl, hx⟩
    have hit : i < rs.length := by omega
    obtain ⟨p, rfl, hp⟩ := hxp i x (rwV rs[i]) hx (by rw [List.getElem?_map, List.getElem?_eq_getElem hit]; rfl)
    refine s_gTup (e1.sqT (by simp) hp) rfl ?_
    unfold rwV
    refine s_gCons ?_
    refine s_gName ?_
    refine s_gCons ?_
    refine s_gName ?_
    refine s_gCons ?_
    refine s_gName ?_
    refine s_gCons ?_
    refine s_gName ?_
    refine s_gNil ?_
    rw [hτ]
    refine ⟨hw _ _ _ _, ?_⟩
    refine s_yes ?_
    refine s_T rfl ?_
    refine s_tup ?_
    refine s_cons ?_
    refine s_var (l1 _ _ _ _) ?_
    refine s_cons ?_
    refine s_var (l2 _ _ _ _) ?_
    refine s_nil ?_
    refine s_alloc (by show 2 ≤ sizeLine; decide) fun q3 H3 n3 e3 h3 => ?_
    refine s_tup ?_
    refine s_cons ?_
    refine s_var (l3 _ _ _ _) ?_
    refine s_cons ?_
    refine s_var (l4 _ _ _ _) ?_
    refine s_nil ?_
    refine s_alloc (by show 2 ≤ sizeLine; decide) fun q4 H4 n4 e4 h4 => ?_
    have hD4 : H4 D = some (.dT kvs) := e4.get0 (e3.get0 h1)
    refine ⟨kvs, [kS rs[i].a, kS [rs[i].c]], q3, rfl, e4.get0 h3, hD4, Nat.lt_of_le_of_lt hl (Nat.lt_of_lt_of_le hit (Nat.le_trans hn (by decide))), ?_, hD, _, upd_same, ?_, ?_⟩
    · intro b o nb hb
      rw [upd_ne (ne_of_none hb hD)]
      exact e4.get0 (e3.get0 (e1 b o nb hb))
    · have := length_putK kvs [kS rs[i].a, kS [rs[i].c]] (.ref q4)
      omega
    · intro r hr
      have hT : TabR K H4 kvs (rs.take i) := fun r hr => by
        obtain ⟨p, z1, z2⟩ := ht r hr
        exact ⟨p, z1, (e3.trans e4).sqT (by simp) z2⟩
      rw [List.take_add_one, List.getElem?_eq_getElem hit] at hr
      rcases List.mem_append.mp hr with hr | hr
      · obtain ⟨p', z1, z2⟩ := upd_TabR (o := .dT (putK kvs [kS rs[i].a, kS [rs[i].c]] (.ref q4))) ⟨_, hD4⟩ hT r hr
        refine ⟨p', ?_, z2⟩
        rw [valV_put, if_neg, z1]
        intro z
        obtain ⟨z3, z4⟩ := key2 z
        have := not_mem_take g2 (i := i) (by rw [List.length_map]; exact hit)
        rw [List.getElem_map, ← List.map_take] at this
        exact this (List.mem_map.mpr ⟨r, hr, by simp only [z3, z4]⟩)
      · have hr' : r = rs[i] := by simpa using hr
        subst hr'
        refine ⟨q4, by rw [valV_put, if_pos rfl], SqT.of ?_⟩
        rw [upd_ne (fun z => by rw [z, hD4] at h4; cases h4)]
        exact h4
  · rintro D H1 hD ⟨e1, _, kvs, h1, hl, ht⟩
    rw [hxl, List.take_length] at ht
    exact k D H1 kvs hD e1 h1 ht
/-- what given holds -/
def GivR (K : PySem.W.Frag) (H : Hp) (kvs : List (Key × V)) (ts : List Tn) : Prop := EndR K H kvs ts ∧ ∀ a, a ∉ ts.map (fun t => t.a) → valV kvs (kS a) = none
theorem sqT_dK {D t : Addr} {ks : List (Key × V)} {xs : List V} {o : HO} (h1 : H D = some (.dK ks)) (h : SqT K H t xs) : SqT K (upd H D o) t xs := by
  have e : Ex [D] H (upd H D o) := Ex.put (by simp)
  rcases h with (h | ⟨ob, h⟩) | h
  · exact e.sqT (by simp only [List.mem_singleton]; intro w; rw [w, h1] at h; cases h) (.inl (.inl h))
  · exact e.sqT (by simp only [List.mem_singleton]; intro w; rw [w, h1] at h; cases h) (.inl (.inr ⟨ob, h⟩))
  · exact .inr h
theorem dc_given {u : Addr} {ts : List Tn} {σ : St} {a1 a2 a3 : Nat} (τ : V → V → V → St)
    (hτ : ∀ A B C, (((wipe σ [a1, a2, a3]).set a1 (some A)).set a2 (some B)).set a3 (some C) = τ A B C) (hw : ∀ A B C, wipe (τ A B C) [a1, a2, a3] = wipe σ [a1, a2, a3])
    (l1 : ∀ A B C, (τ A B C)[a1]? = some (some A)) (l2 : ∀ A B C, (τ A B C)[a2]? = some (some B)) (l3 : ∀ A B C, (τ A B C)[a3]? = some (some C))
    (hu : TupsAt K H u (ts.map tnV)) (hn : ts.length ≤ 1000) (g2 : (ts.map fun r => r.a).Nodup)
    (k : ∀ D H' kvs, H D = none → Ex [] H H' → H' D = some (.dK kvs) → GivR K H' kvs ts → Q (.ref D) H') :
    ∃ b, V.ref u = .ref b ∧ (∃ xs, SqT K H b xs) ∧ DcW (Itt K b) (gTup K 3 (gCons (gName a1) (gCons (gName a2) (gCons (gName a3) gNil)))) tYes (tVar a1) (tTup (tCons (tVar a2) (tCons (tVar a3) tNil))) [a1, a2, a3] σ H Q := by
  obtain ⟨xs, hxs, hxl, hxp⟩ := hu
  rw [List.length_map] at hxl
  refine ⟨u, rfl, ⟨xs, hxs⟩, dc_it (walk_tup (xs := xs)) (fun D i H1 => Ex [] H H1 ∧ H D = none ∧ ∃ kvs, H1 D = some (.dK kvs) ∧ kvs.length ≤ i ∧ GivR K H1 kvs (ts.take i)) (fun D hD => ⟨Ex.new hD, hD, [], upd_same, Nat.le_refl _, by intro r hr; simp at hr, fun _ _ => rfl⟩) (fun D i H1 _ h => h.1.sqT (by simp) hxs) ?_ ?_⟩
  · rintro D i x H1 H2 hi ⟨e1, hD, kvs, h1, hl, ht, hno⟩ ⟨rfl, hx⟩
    have hit : i < ts.length := by omega
    obtain ⟨p, rfl, hp⟩ := hxp i x (tnV ts[i]) hx (by rw [List.getElem?_map, List.getElem?_eq_getElem hit]; rfl)
    refine s_gTup (e1.sqT (by simp) hp) rfl ?_
    unfold tnV
    refine s_gCons ?_
    refine s_gName ?_
    refine s_gCons ?_
    refine s_gName ?_
    refine s_gCons ?_
    refine s_gName ?_
    refine s_gNil ?_
    rw [hτ]
    refine ⟨hw _ _ _, ?_⟩
    refine s_yes ?_
    refine s_T rfl ?_
    refine s_var (l1 _ _ _) ?_
    refine s_tup ?_
    refine s_cons ?_
    refine s_var (l2 _ _ _) ?_
    refine s_cons ?_
    refine s_var (l3 _ _ _) ?_
    refine s_nil ?_
    refine s_alloc (by show 2 ≤ sizeLine; decide) fun q4 H4 n4 e4 h4 => ?_
    have hD4 : H4 D = some (.dK kvs) := e4.get0 h1
    have hni := not_mem_take g2 (i := i) (by rw [List.length_map]; exact hit)
    rw [List.getElem_map, ← List.map_take] at hni
    refine ⟨kvs, kS ts[i].a, rfl, hD4, Nat.lt_of_le_of_lt hl (Nat.lt_of_lt_of_le hit (Nat.le_trans hn (by decide))), ?_, hD, _, upd_same, ?_, ?_, ?_⟩
    · intro b o nb hb
      rw [upd_ne (ne_of_none hb hD)]
      exact e4.get0 (e1 b o nb hb)
    · have := length_putK kvs (kS ts[i].a) (.ref q4)
      omega
    · intro r hr
      rw [List.take_add_one, List.getElem?_eq_getElem hit] at hr
      rcases List.mem_append.mp hr with hr | hr
      · obtain ⟨p', z1, z2⟩ := ht r hr
        refine ⟨p', ?_, sqT_dK hD4 (e4.sqT (by simp) z2)⟩
        rw [valV_put, if_neg, z1]
        intro z
        exact hni (List.mem_map.mpr ⟨r, hr, kS_inj z⟩)
      · have hr' : r = ts[i] := by simpa using hr
        subst hr'
        refine ⟨q4, by rw [valV_put, if_pos rfl], SqT.of ?_⟩
        rw [upd_ne (fun z => by rw [z, hD4] at h4; cases h4)]
        exact h4
    · intro a ha
      rw [take1 (fun t => t.a) hit] at ha
      rw [valV_put, if_neg (fun z => ha (by rw [kS_inj z]; simp)), hno a (fun z => ha (List.mem_append_left _ z))]
  · rintro D H1 hD ⟨e1, _, kvs, h1, hl, ht⟩
    rw [hxl, List.take_length] at ht
    exact k D H1 kvs hD e1 h1 ht
theorem dc_ending {t d : Addr} {st : List (List Nat)} {ts : List Tn} {kg : List (Key × V)} {σ : St} {a1 g : Nat} (τ : V → St)
    (hτ : ∀ A, (wipe σ [a1]).set a1 (some A) = τ A) (hw : ∀ A, wipe (τ A) [a1] = wipe σ [a1])
    (l1 : ∀ A, (τ A)[a1]? = some (some A)) (l2 : ∀ A, (τ A)[g]? = some (some (.ref d))) (ht : SqT K H t (st.map vS)) (hn : st.length ≤ 1000) (g3 : st.Nodup) (hd : H d = some (.dK kg)) (hg : GivR K H kg ts) (g2 : (ts.map fun r => r.a).Nodup)
    (k : ∀ D H' kvs, H D = none → Ex [] H H' → H' D = some (.dK kvs) → (∀ a ∈ st, ∃ p, valV kvs (kS a) = some (.ref p) ∧ SqT K H' p [vS (enOf ts a).1, .int (enOf ts a).2]) → Q (.ref D) H') :
    DcW (Itt K t) (gName a1) tYes (tVar a1) (tDGet2 (tVar g) (tVar a1) (tTup (tCons (tVar a1) (tCons (tC (.int 0)) tNil)))) [a1] σ H Q := by
  refine dc_it (walk_tup (xs := st.map vS)) (fun D i H1 => Ex [] H H1 ∧ H D = none ∧ ∃ kvs, H1 D = some (.dK kvs) ∧ kvs.length ≤ i ∧ ∀ a ∈ st.take i, ∃ p, valV kvs (kS a) = some (.ref p) ∧ SqT K H1 p [vS (enOf ts a).1, .int (enOf ts a).2]) (fun D hD => ⟨Ex.new hD, hD, [], upd_same, Nat.le_refl _, by intro r hr; simp at hr⟩) (fun D i H1 _ h => h.1.sqT (by simp) ht) ?_ ?_
  · rintro D i x H1 H2 hi ⟨e1, hD, kvs, h1, hl, hh⟩ ⟨rfl, hx⟩
    rw [List.length_map] at hi
    rw [List.getElem?_map, List.getElem?_eq_getElem hi] at hx
    cases hx
    refine s_gName ?_
    rw [hτ]
    refine ⟨hw _, ?_⟩
    refine s_yes ?_
    refine s_T rfl ?_
    refine s_var (l1 _) ?_
    refine s_var (l2 _) ?_
    refine ⟨d, rfl, .inl ⟨kg, .inl (e1.get0 hd)⟩, ?_⟩
    refine s_var (l1 _) ?_
    refine s_tup ?_
    refine s_cons ?_
    refine s_var (l1 _) ?_
    refine s_cons ?_
    refine s_c ?_
    refine s_nil ?_
    refine s_alloc (by show 2 ≤ sizeLine; decide) fun q4 H4 n4 e4 h4 => ?_
    have hD4 : H4 D = some (.dK kvs) := e4.get0 h1
    refine ⟨_, DGet.k (k := kS st[i]) ((e1.trans e4).get0 hd), ?_⟩
    have fin : ∀ p, SqT K H4 p [vS (enOf ts st[i]).1, .int (enOf ts st[i]).2] → ∃ kvs k, vS st[i] = kV k ∧ H4 D = some (.dK kvs) ∧ kvs.length < sizeLine ∧ (Ex [] H (upd H4 D (.dK (putK kvs k (.ref p)))) ∧ H D = none ∧ ∃ kvs', (upd H4 D (.dK (putK kvs k (.ref p)))) D = some (.dK kvs') ∧ kvs'.length ≤ i + 1 ∧ ∀ a ∈ st.take (i + 1), ∃ p', valV kvs' (kS a) = some (.ref p') ∧ SqT K (upd H4 D (.dK (putK kvs k (.ref p)))) p' [vS (enOf ts a).1, .int (enOf ts a).2]) := by
      intro p hp
      refine ⟨kvs, kS st[i], rfl, hD4, Nat.lt_of_le_of_lt hl (Nat.lt_of_lt_of_le hi (Nat.le_trans hn (by decide))), ?_, hD, _, upd_same, ?_, ?_⟩
      · intro b o nb hb
        rw [upd_ne (ne_of_none hb hD)]
        exact e4.get0 (e1 b o nb hb)
      · have := length_putK kvs (kS st[i]) (.ref p)
        omega
      · intro a ha
        rw [List.take_add_one, List.getElem?_eq_getElem hi] at ha
        rcases List.mem_append.mp ha with ha | ha
        · obtain ⟨p', z1, z2⟩ := hh a ha
          refine ⟨p', ?_, sqT_dK hD4 (e4.sqT (by simp) z2)⟩
          rw [valV_put, if_neg, z1]
          intro z
          exact not_mem_take g3 hi (by rw [← kS_inj z]; exact ha)
        · have hr' : a = st[i] := by simpa using ha
          subst hr'
          exact ⟨p, by rw [valV_put, if_pos rfl], sqT_dK hD4 hp⟩
    by_cases hin : st[i] ∈ ts.map fun t => t.a
    · obtain ⟨r, hr, er⟩ := List.mem_map.mp hin
      obtain ⟨p, z1, z2⟩ := hg.1 r hr
      rw [← er, z1]
      have := fin p (by rw [← er, en_of g2 hr]; exact (e1.trans e4).sqT (by simp) z2)
      rw [← er] at this
      exact this
    · rw [hg.2 _ hin]
      exact fin q4 (by rw [en_no hin]; exact SqT.of h4)
  · rintro D H1 hD ⟨e1, _, kvs, h1, hl, hh⟩
    rw [List.length_map, List.take_length] at hh
    exact k D H1 kvs hD e1 h1 hh
theorem lc_fmT {b : Addr} {ls : List (List Nat)} {j : Nat} {tt : TT} {te : TE} {σ : St} (hq : SqT K H b (ls.map vS)) (hn : ls.length ≤ 100000) (pr : List Nat → Bool) (val : List Nat → V)
    (h : ∀ (x : List Nat) (H1 : Hp) (C1 : VK) (C0 : Hp → Prop), x ∈ ls → Ex [] H H1 → (∀ H2, Ex [] H1 H2 → pr x = true → C1 (val x) H2) → (∀ H2, Ex [] H1 H2 → pr x = false → C0 H2) →
      tt ((wipe σ [j]).set j (some (vS x))) H1 fun b H2 => if b = true then te ((wipe σ [j]).set j (some (vS x))) H2 C1 else C0 H2)
    (k : ∀ D H', H D = none → Ex [] H H' → H' D = some (.lst ((ls.filter pr).map val)) → Q (.ref D) H') : LcW (Itt K b) (gName j) tt te [j] σ H Q := by
  refine lc_run (walk_tup (xs := ls.map vS)) (by rw [List.length_map]; exact hn) [] (fun _ => True) (fun i acc _ => acc = ((ls.take i).filter pr).map val) (by simp) trivial (by simp) (fun _ _ _ _ _ => trivial) (fun _ _ _ _ _ _ h => h) (fun H1 e => e.sqT (by simp) hq) ?_ ?_
  · rintro i acc x H1 H2 C1 C0 hi e _ rfl ⟨rfl, hx⟩ k1 k0
    rw [List.length_map] at hi
    rw [List.getElem?_map, List.getElem?_eq_getElem hi] at hx
    cases hx
    refine ⟨wipe1 _ _ _, ?_⟩
    refine h ls[i] _ C1 C0 (List.getElem_mem hi) e (fun H5 e5 hp => k1 _ H5 e5 trivial ?_) (fun H5 e5 hp => k0 H5 e5 trivial ?_)
    · rw [List.take_add_one, List.getElem?_eq_getElem hi, List.filter_append, List.map_append]
      simp [hp]
    · rw [List.take_add_one, List.getElem?_eq_getElem hi, List.filter_append, List.map_append]
      simp [hp]
  · rintro D H' ys hD e _ hd _ rfl
    rw [List.length_map, List.take_length] at hd
    exact k D H' hD e hd
theorem pure_Loop_init (F : LoopK K) (h : sp_Loop_init K vs H Q E) : t_Loop_init K (E1 Q) (start ["self", "signs", "states", "rows", "turns", "yes", "state", "sign", "later", "amount", "given"] vs) H := by
  obtain ⟨x, s, t, u, v, w, dx, rfl, hx, st, rs, ts, ys, hs, ht, hst, hu, hrs, hv, hts, hw, hys, k⟩ := h
  have h4 := hs.2.1
  show t_Loop_init K (E1 Q) [some (.ref x), some (vS s), some (.ref t), some (.ref u), some (.ref v), some (.ref w), none, none, none, none, none] H
  unfold t_Loop_init
  walk_at "go"
  refine u_check_signs hs fun H1 e1 => ?_
  walk_at "go"
  refine u_check_states (e1.sqT (by simp) ht) hst fun H2 e2 => ?_
  have e02 := e1.trans e2
  walk_at "go"
  refine u_check_rows hs (e02.sqT (by simp) ht) hst (hu.ex0 e02) hrs fun H3 e3 => ?_
  have e03 := e02.trans e3
  walk_at "go"
  refine u_check_turns (e03.sqT (by simp) ht) hst (hv.ex0 e03) hts fun H4 e4 => ?_
  have e04 := e03.trans e4
  walk_at "go"
  refine u_check_yes (e04.sqT (by simp) ht) (e04.sqT (by simp) hw) hys fun H5 e5 => ?_
  have e05 := e04.trans e5
  clear e1 e2 e3 e4 e5 e02 e03 e04
  walk_at "go"
  refine s_srtS (by omega) fun p2 H6 n6 e6 h6 => ?_
  have e06 := e05.trans e6
  clear e05 e6
  walk_at "go"
  refine s_join0 (ls := srt (s.map fun c => [c])) (SqL.of h6) (by rw [flat_len1]; omega) ?_
  walk_at "go"
  refine s_setF (e06.get0 hx) F.cl F.n1 (by simp) fun H7 e7 h7 => ?_
  have e07 : Ex [x] H H7 := e06.wide.trans e7
  have ht7 := sqT_ins (e06.get0 hx) e7 (e06.sqT (by simp) ht)
  have hw7 := sqT_ins (e06.get0 hx) e7 (e06.sqT (by simp) hw)
  have hu7 := (hu.ex0 e06).exI (e06.get0 hx) e7
  have hv7 := (hv.ex0 e06).exI (e06.get0 hx) e7
  clear e7 h6
  walk_at "go"
  refine s_setF h7 F.cl F.n2 (show (1 : Nat) < 30 by decide) fun H8 e8 h8 => ?_
  have e08 : Ex [x] H H8 := e07.trans e8
  have ht8 := sqT_ins h7 e8 ht7
  have hw8 := sqT_ins h7 e8 hw7
  have hu8 := hu7.exI h7 e8
  have hv8 := hv7.exI h7 e8
  clear e8 e07 h7 ht7 hw7 hu7 hv7
  have hrl : rs.length ≤ 24 := by rw [hrs.2.2]; exact Nat.mul_le_mul h4 hst.2.1
  have htl : ts.length ≤ 6 := by
    have := nodup_le _ st hts.2 fun a ha => by obtain ⟨t, h1, rfl⟩ := List.mem_map.mp ha; exact (hts.1 t h1).1
    rw [List.length_map] at this
    exact Nat.le_trans this hst.2.1
  walk_at "go"
  refine dc_table (fun A B C D => [some (.ref x), some (vS s), some (.ref t), some (.ref u), some (.ref v), some (.ref w), some A, some B, some C, some D, none]) (fun _ _ _ _ => rfl) (fun _ _ _ _ => rfl) (fun _ _ _ _ => rfl) (fun _ _ _ _ => rfl) (fun _ _ _ _ => rfl) (fun _ _ _ _ => rfl) hu8 (by omega) hrs.2.1 fun tt H9 kt n9 e9 h9 hT => ?_
  walk_at "go"
  have hx9 := e9.get0 h8
  refine s_setF hx9 F.cl F.n3 (show (2 : Nat) < 30 by decide) fun H10 e10 h10 => ?_
  have e010 : Ex [x] H H10 := (e08.trans e9.wide).trans e10
  have ht10 := sqT_ins hx9 e10 (e9.sqT (by simp) ht8)
  have hw10 := sqT_ins hx9 e10 (e9.sqT (by simp) hw8)
  have hv10 := (hv8.ex0 e9).exI hx9 e10
  have htt10 : H10 tt = some (.dT kt) := e10.get (by simp only [List.mem_singleton]; intro z; rw [z, hx9] at h9; cases h9) h9
  have hT10 : TabR K H10 kt rs := fun r hr => by
    obtain ⟨p, z1, z2⟩ := hT r hr
    exact ⟨p, z1, sqT_ins hx9 e10 z2⟩
  clear e10 e9 e08 hx9 h9 hT ht8 hw8 hu8 hv8
  walk_at "go"
  refine dc_given (fun A B C => [some (.ref x), some (vS s), some (.ref t), some (.ref u), some (.ref v), some (.ref w), some A, none, some B, some C, none]) (fun _ _ _ => rfl) (fun _ _ _ => rfl) (fun _ _ _ => rfl) (fun _ _ _ => rfl) (fun _ _ _ => rfl) hv10 (by omega) hts.2 fun d H11 kg n11 e11 h11 hG => ?_
  walk_at "go"
  refine dc_ending (d := d) (g := 10) (a1 := 6) (fun A => [some (.ref x), some (vS s), some (.ref t), some (.ref u), some (.ref v), some (.ref w), some A, none, none, none, some (.ref d)]) (fun _ => rfl) (fun _ => rfl) (fun _ => rfl) (fun _ => rfl) (e11.sqT (by simp) ht10) (by have := hst.2.1; omega) hst.2.2.1 h11 hG hts.2 fun te H12 ke n12 e12 h12 hE => ?_
  walk_at "go"
  have e1012 := e11.trans e12
  have hx12 := e1012.get0 h10
  refine s_setF hx12 F.cl F.n4 (show (3 : Nat) < 30 by decide) fun H13 e13 h13 => ?_
  have e013 : Ex [x] H H13 := (e010.trans e1012.wide).trans e13
  have ht13 := sqT_ins hx12 e13 (e1012.sqT (by simp) ht10)
  have hw13 := sqT_ins hx12 e13 (e1012.sqT (by simp) hw10)
  have htt13 : H13 tt = some (.dT kt) := e13.get (by simp only [List.mem_singleton]; intro z; rw [z] at htt10; rw [htt10] at h10; cases h10) (e1012.get0 htt10)
  have hte13 : H13 te = some (.dK ke) := e13.get (by simp only [List.mem_singleton]; intro z; rw [z, hx12] at h12; cases h12) h12
  walk_at "go"
  refine lc_fmT (ls := st) ht13 (by have := hst.2.1; omega) (fun a => decide (a ∈ ys)) vS (fun a G C1 C0 ha eg k1 k0 => ?_) (fun D G hD eg hd => ?_)
  · walk_at "go"
    refine s_inT (eg.sqT (by simp) hw13) ?_
    walk_at "go"
    refine s_2 (fun h => ?_) fun h => k0 _ Ex.rfl h
    walk_at "go"
    exact k1 _ Ex.rfl h
  walk_at "go"
  refine s_tupOf (SqL.of hd) fun tm G2 n14 e14 h14 => ?_
  walk_at "go"
  have hx14 := e14.get0 (eg.get0 h13)
  refine s_setF hx14 F.cl F.n5 (show (4 : Nat) < 30 by decide) fun G3 e15 h15 => ?_
  have e1315 := eg.trans e14
  refine k _ ((e013.trans e1315.wide).trans e15) ⟨dx, t, tt, te, tm, kt, ke, h15, sqT_ins hx14 e15 (e1315.sqT (by simp) ht13), ?_, ?_, ?_, ?_, sqT_ins hx14 e15 (SqT.of h14)⟩
  · exact e15.get (by simp only [List.mem_singleton]; intro z; rw [z] at htt13; rw [htt13] at h13; cases h13) (e1315.get0 htt13)
  · intro a ha c hc
    obtain ⟨r, hr, rfl, rfl⟩ := tab_all hrs ha ((sgn_perm s).mem_iff.mp hc)
    obtain ⟨p, z1, z2⟩ := hT10 r hr
    refine ⟨p, z1, ?_⟩
    show SqT K G3 p [vS (tbOf rs r.a r.c).1, .int (tbOf rs r.a r.c).2]
    rw [tb_of hrs.2.1 hr]
    exact sqT_ins hx14 e15 (e1315.sqT (by simp) (sqT_ins hx12 e13 (e1012.sqT (by simp) z2)))
  · exact e15.get (by simp only [List.mem_singleton]; intro z; rw [z] at hte13; rw [hte13] at h13; cases h13) (e1315.get0 hte13)
  · intro a ha
    obtain ⟨p, z1, z2⟩ := hE a ha
    exact ⟨p, z1, sqT_ins hx14 e15 (e1315.sqT (by simp) (sqT_ins hx12 e13 z2))⟩
end
end WB
namespace WB
open PySem PySem.Spec PyProof.Rows L2
/-! ### rounds, plain -/
def stp (M : LM) (z : List Nat × Int) (c : Nat) : List Nat × Int := ((M.tb z.1 c).1, z.2 + (M.tb z.1 c).2)
def run (M : LM) (a : List Nat) (w : List Nat) : List Nat × Int := w.foldl (stp M) (a, 0)
def rnd (M : LM) (a : List Nat) (w : List Nat) : List Nat × Int := ((M.en (run M a w).1).1, (run M a w).2 + (M.en (run M a w).1).2)
def orb (M : LM) (w : List Nat) : Nat → List Nat
  | 0 => M.st.headD []
  | i + 1 => (rnd M (orb M w i) w).1
def cnt (M : LM) (w : List Nat) (i : Nat) : Int := (rnd M (orb M w i) w).2
def inAb (M : LM) (w : List Nat) : Prop := 1 ≤ w.length ∧ w.length ≤ 600 ∧ ∀ c ∈ w, c ∈ M.ab
theorem run_in {M : LM} (g : GoodM M) : ∀ (w : List Nat) (z : List Nat × Int), z.1 ∈ M.st → (∀ c ∈ w, c ∈ M.ab) → (w.foldl (stp M) z).1 ∈ M.st
  | [], z, h, _ => h
  | c :: w, z, h, hw => run_in g w (stp M z c) (g.tb _ h c (hw c List.mem_cons_self)) fun d hd => hw d (List.mem_cons_of_mem _ hd)
theorem rnd_in {M : LM} (g : GoodM M) {w : List Nat} {a : List Nat} (ha : a ∈ M.st) (hw : ∀ c ∈ w, c ∈ M.ab) : (rnd M a w).1 ∈ M.st := g.en _ (run_in g w (a, 0) ha hw)
theorem orb_in {M : LM} (g : GoodM M) {w : List Nat} (hw : ∀ c ∈ w, c ∈ M.ab) : ∀ i, orb M w i ∈ M.st
  | 0 => by
    have := g.st.1
    match h : M.st, this with
    | a :: l, _ => unfold orb; rw [h]; exact List.mem_cons_self
  | i + 1 => rnd_in g (orb_in g hw i) hw
/-- the same state again: the same from there on -/
theorem orb_add {M : LM} {w : List Nat} {b n : Nat} (h : orb M w n = orb M w b) : ∀ i, orb M w (n + i) = orb M w (b + i)
  | 0 => h
  | i + 1 => by
    show (rnd M (orb M w (n + i)) w).1 = (rnd M (orb M w (b + i)) w).1
    rw [orb_add h i]
def plc (i n b : Nat) : Nat := if i < n then i else b + (i - b) % (n - b)
theorem plc_lt {i n b : Nat} (hb : b < n) : plc i n b < n := by
  unfold plc
  split
  · assumption
  · have := Nat.mod_lt (i - b) (show 0 < n - b by omega)
    omega
theorem orb_mul {M : LM} {w : List Nat} {b n : Nat} (hb : b < n) (h : orb M w n = orb M w b) (j : Nat) : ∀ k, orb M w (b + j + k * (n - b)) = orb M w (b + j)
  | 0 => by simp
  | k + 1 => by
    have e : b + j + (k + 1) * (n - b) = n + (j + k * (n - b)) := by rw [Nat.succ_mul]; omega
    rw [e, orb_add h, ← Nat.add_assoc, orb_mul hb h j k]
theorem orb_plc {M : LM} {w : List Nat} {b n : Nat} (hb : b < n) (h : orb M w n = orb M w b) (i : Nat) : orb M w (plc i n b) = orb M w i := by
  unfold plc
  split
  · rfl
  · have e : i = b + (i - b) % (n - b) + ((i - b) / (n - b)) * (n - b) := by
      have := Nat.mod_add_div (i - b) (n - b)
      rw [Nat.mul_comm] at this
      omega
    conv => rhs; rw [e]
    rw [orb_mul hb h]
theorem cnt_plc {M : LM} {w : List Nat} {b n : Nat} (hb : b < n) (h : orb M w n = orb M w b) (i : Nat) : cnt M w (plc i n b) = cnt M w i := by
  unfold cnt
  rw [orb_plc hb h]
/-! ### promises -/
def sp_Loop_round_from (K : PySem.W.Frag) : Sp := fun vs H Q _ => ∃ (x : Addr) (a w : List Nat), vs = [.ref x, vS a, vS w] ∧ ∃ M : LM, LoopAt K H x M ∧ GoodM M ∧ a ∈ M.st ∧ w.length ≤ 10000 ∧ (∀ c ∈ w, c ∈ M.ab) ∧ ∀ p H', Ex [] H H' → H' p = some (.tup [vS (rnd M a w).1, .int (rnd M a w).2]) → Q (.ref p) H'
/-- what a history tells -/
def HisAt (H : Hp) (M : LM) (w : List Nat) (p : Addr) (n b : Nat) : Prop := ∃ q r, H p = some (.tup [.ref q, .ref r, .int b]) ∧ H q = some (.lst ((List.range n).map fun i => vS (orb M w i))) ∧ H r = some (.lst ((List.range n).map fun i => .int (cnt M w i)))
def sp_Loop_history (K : PySem.W.Frag) : Sp := fun vs H Q _ => ∃ (x : Addr) (w : List Nat), vs = [.ref x, vS w] ∧ ∃ M : LM, LoopAt K H x M ∧ GoodM M ∧ inAb M w ∧ ∀ p H' n b, Ex [] H H' → n ≤ 6 → b < n → orb M w n = orb M w b → HisAt H' M w p n b → Q (.ref p) H'
end WB
namespace WB
open PySem PySem.Spec PyProof.Rows L2
local macro_rules | `(tactic| walk_at "lit") => `(tactic| first | exact lit_abc | exact lit_empty)
local macro_rules | `(tactic| walk_at "nm") => `(tactic| focus first | exact List.not_mem_nil | (simp only [List.mem_singleton]; first | assumption | (exact Ne.symm (by assumption)) | (intro hz; subst hz; simp_all; done)))
local macro_rules | `(tactic| walk_at "hp") => `(tactic| first | assumption | (apply Ex.get0 (by assumption); walk_at "hp") | (apply Ex.get (by assumption); (walk_at "nm"); (walk_at "hp")))
local macro_rules | `(tactic| walk_at "sq") => `(tactic| first | assumption | (apply SqL.of; walk_at "hp") | (apply Ex.sqL (by assumption); (walk_at "nm"); (walk_at "sq")))
local macro_rules | `(tactic| walk_at "sqt") => `(tactic| first | assumption | (apply SqT.of; walk_at "hp") | (apply Ex.sqT (by assumption); (walk_at "nm"); (walk_at "sqt")))
local macro_rules | `(tactic| walk_at "sz") => `(tactic| focus ((with_reducible refine Nat.le_trans (m := 100000) ?_ (by decide)); first | omega | (simp; done) | (simp; omega)))
local macro_rules | `(tactic| walk_at "mul") => `(tactic| first | exact Or.inr ⟨by omega, by omega⟩ | exact Or.inl ⟨by omega, by omega⟩)
local macro_rules | `(tactic| walk_at "pool") => `(tactic| first | assumption | (apply PoolAt.ex (by assumption); (walk_at "nm"); (walk_at "pool")))
local macro_rules | `(tactic| walk_at "ring") => `(tactic| first | assumption | (apply RingAt.ex (by assumption); (walk_at "nm"); (walk_at "ring")))
local macro_rules | `(tactic| walk_at "st") => `(tactic| first
  | with_reducible refine s_seq ?_
  | with_reducible refine s_asg ?_
  | with_reducible refine s_gName ?_
  | with_reducible refine s_ret ?_
  | with_reducible refine s_ifS ?_
  | with_reducible refine s_next ?_
  | with_reducible refine s_op ?_
  | ((with_reducible apply s_var); exact rfl)
  | ((with_reducible apply s_cS); (walk_at "lit"))
  | with_reducible refine s_c ?_
  | with_reducible refine s_cb ?_
  | with_reducible refine s_cons ?_
  | with_reducible refine s_nil ?_
  | with_reducible refine s_un ?_
  | with_reducible refine s_call ?_
  | with_reducible refine s_test ?_
  | with_reducible refine s_tB ?_
  | with_reducible refine s_blQ ?_
  | with_reducible refine s_not ?_
  | with_reducible refine s_and ?_
  | with_reducible refine s_or ?_
  | with_reducible refine s_andV ?_
  | with_reducible refine s_orV ?_
  | with_reducible refine s_notV ?_
  | with_reducible refine s_ifE ?_
  | with_reducible refine s_chain ?_
  | ((with_reducible refine s_T ?_ ?_); (with_reducible exact rfl))
  | with_reducible refine s_nT ?_
  | with_reducible refine s_nF ?_
  | ((with_reducible refine s_F ?_ ?_); (with_reducible exact rfl))
  | ((with_reducible refine s_T ?_ ?_); assumption)
  | ((with_reducible refine s_F ?_ ?_); assumption)
  | ((with_reducible refine s_nB ?_ ?_); assumption)
  | ((with_reducible refine s_nA ?_ ?_); assumption)
  | ((with_reducible refine s_Td ?_ ?_); omega)
  | ((with_reducible refine s_Fd ?_ ?_); omega)
  | ((with_reducible refine s_nTd ?_ ?_); omega)
  | ((with_reducible refine s_nFd ?_ ?_); omega)
  | with_reducible refine s_sfld ?_
  | with_reducible refine s_addI ?_
  | with_reducible refine s_subI ?_
  | ((with_reducible refine s_mulI ?_ ?_); (walk_at "mul"))
  | ((with_reducible refine s_divI ?_ ?_); exact ⟨by omega, by omega⟩)
  | ((with_reducible refine s_modI ?_ ?_); omega)
  | ((with_reducible refine s_powI ?_ ?_); exact ⟨by decide, by decide, by decide⟩)
  | with_reducible refine s_ltI ?_
  | with_reducible refine s_leI ?_
  | with_reducible refine s_gtI ?_
  | with_reducible refine s_geI ?_
  | with_reducible refine s_negI ?_
  | with_reducible refine s_absI ?_
  | with_reducible refine s_intI ?_
  | with_reducible refine s_min2 ?_
  | with_reducible refine s_max2 ?_
  | with_reducible refine s_eqI ?_
  | with_reducible refine s_neI ?_
  | with_reducible refine s_eqS ?_
  | with_reducible refine s_neS ?_
  | with_reducible refine s_inSg ?_
  | with_reducible refine s_notInSg ?_
  | ((with_reducible refine s_addS ?_ ?_); (walk_at "sz"))
  | ((with_reducible refine s_lenS ?_ ?_); (walk_at "sz"))
  | ((with_reducible apply s_lenL); (walk_at "sq"))
  | ((with_reducible apply s_lenT); (walk_at "sqt"))
  | ((with_reducible apply s_ixL); (walk_at "sq"); exact rfl)
  | ((with_reducible apply s_ixT); (walk_at "sqt"); exact rfl)
  | with_reducible refine s_gSub ?_
  | ((with_reducible apply s_setL); (walk_at "hp"); (exact rfl); (intro _ _ _))
  | ((with_reducible refine s_alloc ?_ ?_); (walk_at "sz"); (intro _ _ _ _ _))
  | ((with_reducible refine s_divmod ?_ ?_); (exact ⟨by omega, PyProof.noPylong_small (by omega)⟩); (intro _ _ _ _ _))
  | ((with_reducible apply s_gTup); (walk_at "sqt"); (exact rfl))
  | ((with_reducible apply s_gLst); (walk_at "sq"); (exact rfl))
  | with_reducible refine s_gCons ?_
  | with_reducible refine s_gNil ?_
  | with_reducible refine s_lc ?_
  | ((with_reducible apply s_cat); (walk_at "hp"); (walk_at "hp"); (walk_at "sz"); (intro _ _ _ _ _))
  | ((with_reducible apply s_slL); (walk_at "sq"); (intro _ _ _ _ _))
  | with_reducible refine s_for ?_
  | with_reducible refine s_rng1 ?_
  | ((with_reducible refine s_rng1i ?_ ?_); (constructor <;> omega))
  | with_reducible refine s_rng2 ?_
  | ((with_reducible refine s_rng2i ?_ ?_); (refine ⟨?_, ?_, ?_, ?_⟩ <;> omega))
  | with_reducible refine s_iStr ?_
  | with_reducible refine s_iStrS ?_
  | with_reducible refine s_iList ?_
  | ((with_reducible apply s_iListA); (walk_at "sq"))
  | with_reducible refine s_iTup ?_
  | ((with_reducible apply s_iTupA); (walk_at "sqt"))
  | with_reducible refine s_sl ?_
  | with_reducible refine s_noPart ?_
  | with_reducible refine s_part ?_
  | with_reducible refine s_int1 ?_
  | ((with_reducible refine s_slS ?_ ?_); (walk_at "sz"))
  | with_reducible refine s_tup ?_
  | with_reducible refine s_lst ?_
  | with_reducible refine s_par ?_
  | with_reducible refine s_pair ?_
  | with_reducible refine s_M1 ?_
  | with_reducible refine s_isStr ?_
  | with_reducible refine s_revS ?_
  | ((with_reducible refine s_revS1 ?_ ?_); (walk_at "sz"))
  | with_reducible refine s_fldE ?_
  | with_reducible refine s_propE ?_
  | ((with_reducible refine u_draw ?_ ?_ ?_ ?_); omega; omega; (walk_at "pool"); (intro _ _ _ _ _ _))
  | ((with_reducible refine u_pool ?_); (intro _ _ _ _ _))
  | with_reducible refine u_is_integer ?_
  | with_reducible refine s_isiII ?_
  | with_reducible refine s_isiIB ?_
  | with_reducible refine s_isiSS ?_
  | ((with_reducible apply u_fldRing); assumption; (walk_at "ring"))
  | ((with_reducible apply u_textP); (walk_at "ring"))
  | ((with_reducible apply u_strRing); (walk_at "ring"))
  | ((with_reducible apply u_eqRing); (walk_at "ring"); (walk_at "ring"))
  | ((with_reducible apply u_isiRing); assumption; (walk_at "ring"))
  | ((with_reducible refine u_is_word ?_ ?_); omega; (intro _ _))
  | ((with_reducible refine u_turnings ?_ ?_); omega; (intro _ _ _ _ _))
  | with_reducible refine s_makeE ?_
  | with_reducible refine s_methE ?_)
local macro_rules | `(tactic| walk_at "go") => `(tactic| repeat (walk_at "st"))
local macro_rules | `(tactic| walk_at "exs") => `(tactic| first | exact Ex.rfl | assumption | (apply Ex.snoc (by assumption); walk_at "exs") | (apply Ex.snocW (by assumption); walk_at "exs"))
local macro_rules | `(tactic| walk_at "kind") => `(tactic| first | assumption | (apply KindAt.ex0 (by assumption); (walk_at "kind")) | (apply KindAt.exP (by assumption) (by assumption); (walk_at "kind")))
local macro_rules | `(tactic| walk_at "st") => `(tactic| first
  | with_reducible refine s_lenSet ?_
  | with_reducible refine s_drop ?_
  | with_reducible refine s_bm ?_
  | with_reducible refine s_notN ?_
  | with_reducible refine s_isN ?_
  | ((with_reducible apply s_tyL); (walk_at "hp"))
  | with_reducible refine s_enumT ?_
  | ((with_reducible apply s_enumTA); (walk_at "sqt"))
  | with_reducible refine s_lc2 ?_)
local macro_rules | `(tactic| walk_at "lit") => `(tactic| exact lit_MRK)
local macro_rules | `(tactic| walk_at "st") => `(tactic| first
  | with_reducible refine s_dcT ?_
  | with_reducible refine s_dc ?_)
/-- Loop.round_from: 0 self 1 state 2 text 3 count 4 sign 5 amount -/
def t_Loop_round_from (K : PySem.W.Frag) : TS :=
  (tSeq (tAsg (tC (.int 0)) (gName 3))
  (tSeq (tFor (iStr (tVar 2)) (gName 4) (tSeq (tAsg (tDGet (tFld K (tVar 0) "table") (tTup (tCons (tVar 1) (tCons (tVar 4) tNil)))) (gTup K 2 (gCons (gName 1) (gCons (gName 5) gNil))))
  (tAug 3 (tVar 5) (ipI fun i j => i + j))))
  (tSeq (tAsg (tDGet (tFld K (tVar 0) "ending") (tVar 1)) (gTup K 2 (gCons (gName 1) (gCons (gName 5) gNil))))
  (tRet (tTup (tCons (tVar 1) (tCons (tOp rAddI (tVar 3) (tVar 5)) tNil)))))))
/-- Loop.history: 0 self 1 text 2 states 3 counts 4 state 5 count -/
def t_Loop_history (K : PySem.W.Frag) : TS :=
  (tSeq (tIfS (tNot (tB (tCall (sp_is_word K) [] E0 (tCons (tVar 1) (tCons (tFld K (tVar 0) "letters") tNil))))) tNever tNext)
  (tSeq (tPar 2 3 (tCons (tLst tNil) (tCons (tLst tNil) tNil)))
  (tSeq (tAsg (tOp (rIxT K) (tFld K (tVar 0) "order") (tC (.int 0))) (gName 4))
  (tSeq (tWhile (tTest (tOp (rIn K true) (tVar 4) (tVar 2))) (tSeq (tDrop (tBM K "list" rAppend (tVar 2) (tCons (tVar 4) tNil)))
  (tSeq (tAsg (tMeth (He.ga K "Loop") "round_from" (sp_Loop_round_from K) [] E0 (tVar 0) (tCons (tVar 4) (tCons (tVar 1) tNil))) (gTup K 2 (gCons (gName 4) (gCons (gName 5) gNil))))
  (tDrop (tBM K "list" rAppend (tVar 3) (tCons (tVar 5) tNil))))))
  (tRet (tTup (tCons (tVar 2) (tCons (tVar 3) (tCons (tBM K "list" (rIndex K) (tVar 2) (tCons (tVar 4) tNil)) tNil)))))))))
section
variable {K : PySem.W.Frag} {vs : List V} {H H' : Hp} {Q : VK} {E : XK} {x : Addr} {M : LM}
theorem u_fLetters (F : LoopK K) (h : LoopAt K H x M) (k : Q (vS M.ab) H) : FldG K "letters" (.ref x) H Q := by
  obtain ⟨dx, o, tt, te, tm, kt, ke, h1, _⟩ := h
  exact ⟨x, _, dx, _, _, rfl, h1, F.cl, F.n1, rfl, k⟩
theorem u_fOrder (F : LoopK K) (h : LoopAt K H x M) (k : ∀ o, SqT K H o (M.st.map vS) → Q (.ref o) H) : FldG K "order" (.ref x) H Q := by
  obtain ⟨dx, o, tt, te, tm, kt, ke, h1, h2, _⟩ := h
  exact ⟨x, _, dx, _, _, rfl, h1, F.cl, F.n2, rfl, k o h2⟩
theorem u_fTable (F : LoopK K) (h : LoopAt K H x M) (k : ∀ tt kt, H tt = some (.dT kt) → TabOk K H kt M → Q (.ref tt) H) : FldG K "table" (.ref x) H Q := by
  obtain ⟨dx, o, tt, te, tm, kt, ke, h1, h2, h3, h4, _⟩ := h
  exact ⟨x, _, dx, _, _, rfl, h1, F.cl, F.n3, rfl, k tt kt h3 h4⟩
theorem u_fEnding (F : LoopK K) (h : LoopAt K H x M) (k : ∀ te ke, H te = some (.dK ke) → EndOk K H ke M → Q (.ref te) H) : FldG K "ending" (.ref x) H Q := by
  obtain ⟨dx, o, tt, te, tm, kt, ke, h1, h2, h3, h4, h5, h6, _⟩ := h
  exact ⟨x, _, dx, _, _, rfl, h1, F.cl, F.n4, rfl, k te ke h5 h6⟩
theorem u_fMarked (F : LoopK K) (h : LoopAt K H x M) (k : ∀ tm, SqT K H tm (M.ok.map vS) → Q (.ref tm) H) : FldG K "marked" (.ref x) H Q := by
  obtain ⟨dx, o, tt, te, tm, kt, ke, h1, h2, h3, h4, h5, h6, h7⟩ := h
  exact ⟨x, _, dx, _, _, rfl, h1, F.cl, F.n5, rfl, k tm h7⟩
theorem s_dget {td ty : TE} {σ : St} (k : td σ H fun x H1 => ty σ H1 fun y H2 => ∃ a v, x = .ref a ∧ DGet H2 a y (some v) ∧ Q v H2) : tDGet td ty σ H Q := k
theorem s_getT {C : V → Prop} {tt q : Addr} {kt : List (List Key × V)} {a : List Nat} {c : Nat} (h1 : H tt = some (.dT kt)) (h2 : TabOk K H kt M) (ha : a ∈ M.st) (hc : c ∈ M.ab) (hq : H q = some (.tup [vS a, vS [c]])) (k : ∀ p, SqT K H p [vS (M.tb a c).1, .int (M.tb a c).2] → C (.ref p)) : ∃ b v, V.ref tt = .ref b ∧ DGet H b (.ref q) (some v) ∧ C v := by
  obtain ⟨p, z1, z2⟩ := h2 a ha c hc
  exact ⟨tt, .ref p, rfl, by rw [← z1]; exact DGet.t h1 (k := [kS a, kS [c]]) hq, k p z2⟩
theorem s_getE {C : V → Prop} {te : Addr} {ke : List (Key × V)} {a : List Nat} (h1 : H te = some (.dK ke)) (h2 : EndOk K H ke M) (ha : a ∈ M.st) (k : ∀ p, SqT K H p [vS (M.en a).1, .int (M.en a).2] → C (.ref p)) : ∃ b v, V.ref te = .ref b ∧ DGet H b (vS a) (some v) ∧ C v := by
  obtain ⟨p, z1, z2⟩ := h2 a ha
  exact ⟨te, .ref p, rfl, by rw [← z1]; exact DGet.k h1 (k := kS a), k p z2⟩
theorem pure_Loop_round_from (F : LoopK K) (h : sp_Loop_round_from K vs H Q E) : t_Loop_round_from K (E1 Q) (start ["self", "state", "text", "count", "sign", "amount"] vs) H := by
  obtain ⟨x, a, w, rfl, M, hx, g, ha, hl, hw, k⟩ := h
  show t_Loop_round_from K (E1 Q) [some (.ref x), some (vS a), some (vS w), none, none, none] H
  unfold t_Loop_round_from
  walk_at "go"
  have wk := walk_str (z := S w)
  have hs : (S w).cps.size = w.length := by simp [S]
  rw [hs] at wk
  refine for_run wk (fun i σ H2 => ∃ x4 x5, σ = [some (.ref x), some (vS (run M a (w.take i)).1), some (vS w), some (.int (run M a (w.take i)).2), x4, x5] ∧ Ex [] H H2) ⟨_, _, rfl, Ex.rfl⟩ (fun _ _ _ _ _ => trivial) ?_ ?_
  · rintro i y σ H2 H3 hi ⟨x4, x5, rfl, e2⟩ ⟨rfl, c, hc, ev⟩
    have ev : y = vS [c] := ev
    subst ev
    have hc : w[i]? = some c := by simpa [S] using hc
    have hcw : c ∈ w := List.mem_of_getElem? hc
    have ht1 : w.take (i + 1) = w.take i ++ [c] := by rw [List.take_add_one, hc]; rfl
    have hr1 : run M a (w.take (i + 1)) = stp M (run M a (w.take i)) c := by unfold run; rw [ht1, List.foldl_append]; rfl
    have hin : (run M a (w.take i)).1 ∈ M.st := run_in g _ (a, 0) ha fun d hd => hw d (List.mem_of_mem_take hd)
    walk_at "go"
    refine s_dget ?_
    walk_at "go"
    refine u_fTable F (hx.ex0 e2) fun tt kt h3 h4 => ?_
    walk_at "go"
    rename_i q H4 nq e4 h5
    refine s_getT (e4.get0 h3) (h4.ex0 e4) hin (hw c hcw) h5 fun p hp => ?_
    walk_at "go"
    refine ⟨_, rfl, ?_⟩
    walk_at "go"
    refine ⟨_, _, rfl, rfl, ?_⟩
    rw [hr1]
    exact ⟨_, _, rfl, e2.trans e4⟩
  · rintro σ H2 ⟨x4, x5, rfl, e2⟩
    rw [List.take_length]
    have hin : (run M a w).1 ∈ M.st := run_in g _ (a, 0) ha hw
    walk_at "go"
    refine s_dget ?_
    walk_at "go"
    refine u_fEnding F (hx.ex0 e2) fun te ke h3 h4 => ?_
    walk_at "go"
    refine s_getE h3 h4 hin fun p hp => ?_
    walk_at "go"
    rename_i q H4 nq e4 h5
    exact k q H4 (e2.trans e4) h5
theorem first_ix {α : Type} [DecidableEq α] {a : α} : ∀ {ls : List α}, a ∈ ls → ∃ j : Nat, ls[j]? = some a ∧ ∀ (m : Nat) z, m < j → ls[m]? = some z → z ≠ a
  | x :: ls, h => by
    by_cases e : x = a
    · exact ⟨0, by rw [e]; rfl, fun m z hm => absurd hm (by omega)⟩
    · obtain ⟨j, h1, h2⟩ := first_ix (ls := ls) ((List.mem_cons.mp h).resolve_left fun z => e z.symm)
      refine ⟨j + 1, h1, fun m z hm hz => ?_⟩
      match m, hm, hz with
      | 0, _, hz => cases hz; exact e
      | m + 1, hm, hz => exact h2 m z (by omega) hz
theorem s_indexS {q : Addr} {ls : List (List Nat)} {a : List Nat} (h : SqL K H q (ls.map vS)) (ha : a ∈ ls) (k : ∀ j : Nat, ls[j]? = some a → Q (.int (j : Nat)) H) : rIndex K (.ref q) [vS a] H Q := by
  obtain ⟨j, hj, hno⟩ := first_ix ha
  refine ⟨q, _, _, j, vS a, rfl, rfl, h, rfl, flat_S ls, by rw [List.getElem?_map, hj]; rfl, by rw [eqV_S]; simp, fun m z hm hz => ?_, k _ hj⟩
  rw [List.getElem?_map] at hz
  obtain ⟨b, hb, rfl⟩ := Option.map_eq_some_iff.mp hz
  rw [eqV_S]
  exact decide_eq_false (hno m b hm hb)
theorem u_methLoop {m : Str} {sp : Sp} {dvs : List V} {tr : TA} {σ : St} (h : LoopAt K H x M) (hm : List.lookup m [(("letters" : Str), V.non), ("order", .non), ("table", .non), ("ending", .non), ("marked", .non)] = none) (k : tr σ H fun vs H2 => sp (.ref x :: (vs ++ dvs)) H2 Q E) : MethG (He.ga K "Loop") m sp dvs E tr σ (.ref x) H Q := by
  obtain ⟨dx, o, tt, te, tm, kt, ke, h1, _⟩ := h
  refine ⟨x, dx, _, rfl, h1, ?_, k⟩
  simp only [List.lookup] at hm ⊢
  revert hm
  cases (m == ("letters" : Str)) <;> cases (m == ("order" : Str)) <;> cases (m == ("table" : Str)) <;> cases (m == ("ending" : Str)) <;> cases (m == ("marked" : Str)) <;> simp
theorem orbs_len {w : List Nat} (g : GoodM M) (hw : ∀ c ∈ w, c ∈ M.ab) {n : Nat} (hn : ((List.range n).map (orb M w)).Nodup) : n ≤ 6 := by
  have := nodup_le _ M.st hn fun a ha => by obtain ⟨i, _, rfl⟩ := List.mem_map.mp ha; exact orb_in g hw i
  rw [List.length_map, List.length_range] at this
  exact Nat.le_trans this g.st.2.1
theorem pure_Loop_history (F : LoopK K) (h : sp_Loop_history K vs H Q E) : t_Loop_history K (E1 Q) (start ["self", "text", "states", "counts", "state", "count"] vs) H := by
  obtain ⟨x, w, rfl, M, hx, g, ⟨w1, w2, w3⟩, k⟩ := h
  show t_Loop_history K (E1 Q) [some (.ref x), some (vS w), none, none, none, none] H
  unfold t_Loop_history
  walk_at "go"
  refine u_fLetters F hx ?_
  walk_at "go"
  refine u_is_wordF (by omega) fun H1 e1 => ?_
  rw [isWord_mk w1 w2 w3]
  walk_at "go"
  rename_i q H2 nq e2 h2 r H3 nr e3 h3
  have hx3 : LoopAt K H3 x M := ((hx.ex0 e1).ex0 e2).ex0 e3
  refine u_fOrder F hx3 fun o ho => ?_
  walk_at "go"
  obtain ⟨a0, l0, hst⟩ : ∃ a l, M.st = a :: l := List.exists_cons_of_ne_nil (List.length_pos_iff.mp g.st.1)
  refine s_ixT (v := vS (orb M w 0)) ho (atI_of (by omega) (by unfold orb; rw [hst]; rfl)) ?_
  have hq : H q = none := e1.free nq
  have hr : H r = none := e1.free (e2.free nr)
  have hqr : q ≠ r := fun z => by rw [← z, h2] at nr; cases nr
  have e03 : Ex [] H H3 := (e1.trans e2).trans e3
  have h23 := e3.get0 h2
  clear e1 e2 e3 h2 nq nr
  repeat (first | with_reducible refine s_gName ?_ | with_reducible refine s_next ?_ | with_reducible refine s_seq ?_)
  refine ⟨fun m σ G => ∃ (n : Nat) (x5 : Option V), m = 7 - n ∧ ((List.range n).map (orb M w)).Nodup ∧ σ = [some (.ref x), some (vS w), some (.ref q), some (.ref r), some (vS (orb M w n)), x5] ∧ Ex [] H G ∧ G q = some (.lst (((List.range n).map (orb M w)).map vS)) ∧ G r = some (.lst ((List.range n).map fun i => .int (cnt M w i))), ⟨7, 0, none, rfl, by simp, rfl, e03, h23, h3⟩, ?_⟩
  rintro m σ G ⟨n, x5, rfl, hn, rfl, e, gq, gr⟩
  have hn6 := orbs_len g w3 hn
  walk_at "go"
  refine s_notInL (ls := (List.range n).map (orb M w)) (SqL.of gq) ?_
  walk_at "go"
  by_cases hin : orb M w n ∈ (List.range n).map (orb M w)
  · refine s_F (by rw [decide_eq_true hin]; rfl) ?_
    walk_at "go"
    refine s_indexS (SqL.of gq) hin fun j hj => ?_
    walk_at "go"
    rename_i p G2 np e2 h2
    have hjn : j < n := by
      have := (List.getElem?_eq_some_iff.mp hj).1
      simpa using this
    rw [List.getElem?_map, List.getElem?_range hjn] at hj
    refine k p G2 n j (e.trans e2) hn6 hjn (Option.some.inj hj).symm ⟨q, r, h2, ?_, e2.get0 gr⟩
    rw [e2.get0 gq, List.map_map]
    rfl
  · refine s_T (by rw [decide_eq_false hin]; rfl) ?_
    refine ⟨fun σ G => ∃ (x5 : Option V), ((List.range (n + 1)).map (orb M w)).Nodup ∧ σ = [some (.ref x), some (vS w), some (.ref q), some (.ref r), some (vS (orb M w (n + 1))), x5] ∧ Ex [] H G ∧ G q = some (.lst (((List.range (n + 1)).map (orb M w)).map vS)) ∧ G r = some (.lst ((List.range (n + 1)).map fun i => .int (cnt M w i))), fun σ' G' ⟨x5, z1, z2, z3, z4, z5⟩ => ⟨7 - (n + 1), by omega, n + 1, x5, rfl, z1, z2, z3, z4, z5⟩, ?_⟩
    walk_at "go"
    have hz : n < sizeLine := Nat.lt_of_le_of_lt hn6 (by decide)
    refine s_append gq (by simp only [List.length_map, List.length_range]; exact hz) fun G2 e2 h2 => ?_
    have e02 : Ex [] H G2 := Ex.drop hq e e2
    have gr2 := e2.get (by simpa using Ne.symm hqr) gr
    walk_at "go"
    refine u_methLoop (hx.ex0 e02) rfl ?_
    walk_at "go"
    refine ⟨x, orb M w n, w, rfl, M, hx.ex0 e02, g, orb_in g w3 n, by omega, w3, fun p G3 e3 h3 => ?_⟩
    have gr3 := e3.get0 gr2
    walk_at "go"
    refine s_append gr3 (by simp only [List.length_map, List.length_range]; exact hz) fun G4 e4 h4 => ?_
    refine ⟨_, ?_, rfl, Ex.drop hr (e02.trans e3) e4, ?_, ?_⟩
    · rw [List.range_succ, List.map_append]
      exact List.nodup_append.mpr ⟨hn, by simp, fun a ha b hb z => hin (by simp at hb; rw [← hb, ← z]; exact ha)⟩
    · rw [e4.get (by simpa using hqr) (e3.get0 h2), List.range_succ, List.map_append, List.map_append]
      rfl
    · rw [h4, List.range_succ, List.map_append]
      rfl
end
end WB
namespace WB
open PySem PySem.Spec PyProof.Rows L2
/-- amounts of not too many bits -/
def BndM (M : LM) : Prop := (∀ a ∈ M.st, ∀ c ∈ M.ab, (M.tb a c).2.natAbs ≤ 2 ^ 200) ∧ ∀ a ∈ M.st, (M.en a).2.natAbs ≤ 2 ^ 200
theorem run_bnd {M : LM} (g : GoodM M) (b : BndM M) : ∀ (w : List Nat) (z : List Nat × Int), z.1 ∈ M.st → (∀ c ∈ w, c ∈ M.ab) → (w.foldl (stp M) z).2.natAbs ≤ z.2.natAbs + w.length * 2 ^ 200
  | [], z, h, _ => by simp
  | c :: w, z, h, hw => by
    have hc := hw c List.mem_cons_self
    have h1 := run_bnd g b w (stp M z c) (g.tb _ h c hc) fun d hd => hw d (List.mem_cons_of_mem _ hd)
    have h2 := b.1 z.1 h c hc
    have h3 : (stp M z c).2.natAbs ≤ z.2.natAbs + 2 ^ 200 := by
      unfold stp
      exact Nat.le_trans (Int.natAbs_add_le _ _) (Nat.add_le_add_left h2 _)
    rw [List.foldl_cons, List.length_cons, Nat.succ_mul]
    omega
theorem cnt_bnd {M : LM} {w : List Nat} (g : GoodM M) (b : BndM M) (hw : inAb M w) (i : Nat) : (cnt M w i).natAbs ≤ 601 * 2 ^ 200 := by
  have h0 := orb_in g hw.2.2 i
  have h1 := run_bnd g b w (orb M w i, 0) h0 hw.2.2
  have h2 := b.2 _ (run_in g w (orb M w i, 0) h0 hw.2.2)
  have h3 : (cnt M w i).natAbs ≤ (run M (orb M w i) w).2.natAbs + (M.en (run M (orb M w i) w).1).2.natAbs := Int.natAbs_add_le _ _
  have h4 : w.length * 2 ^ 200 ≤ 600 * 2 ^ 200 := Nat.mul_le_mul_right _ hw.2.1
  have h5 : (run M (orb M w i) w).2.natAbs ≤ (0 : Int).natAbs + w.length * 2 ^ 200 := h1
  have h6 : (M.en (run M (orb M w i) w).1).2.natAbs ≤ 2 ^ 200 := h2
  simp only [Int.natAbs_zero, Nat.zero_add] at h5
  omega
def tot (f : Nat → Int) (n : Nat) : Int := ((List.range n).map f).sum
theorem tot_succ (f : Nat → Int) (n : Nat) : tot f (n + 1) = tot f n + f n := by
  unfold tot
  rw [List.range_succ, List.map_append, List.sum_append]
  simp
theorem tot_bnd {f : Nat → Int} {B : Nat} (h : ∀ i, (f i).natAbs ≤ B) : ∀ n, (tot f n).natAbs ≤ n * B
  | 0 => by simp [tot]
  | n + 1 => by
    rw [tot_succ, Nat.succ_mul]
    exact Nat.le_trans (Int.natAbs_add_le _ _) (Nat.add_le_add (tot_bnd h n) (h n))
/-- the sum over whole laps -/
theorem tot_add (f : Nat → Int) (n : Nat) : ∀ m, tot f (n + m) = tot f n + tot (fun i => f (n + i)) m
  | 0 => by simp [tot]
  | m + 1 => by rw [← Nat.add_assoc, tot_succ, tot_add f n m, tot_succ]; omega
theorem tot_laps {f : Nat → Int} {b p : Nat} (h : ∀ i, b ≤ i → f (i + p) = f i) : ∀ k r, tot f (b + r + k * p) = tot f (b + r) + k * (tot f (b + p) - tot f b)
  | 0, r => by simp
  | k + 1, r => by
    have e : b + r + (k + 1) * p = (b + r + p) + k * p := by rw [Nat.succ_mul]; omega
    have h1 := tot_laps h k (r + p)
    rw [show b + (r + p) + k * p = b + r + (k + 1) * p by rw [Nat.succ_mul]; omega] at h1
    rw [h1]
    have h2 : tot f (b + (r + p)) = tot f (b + r) + (tot f (b + p) - tot f b) := by
      have q1 := tot_add f (b + p) r
      have q2 := tot_add f b r
      have q3 : (fun i => f (b + p + i)) = fun i => f (b + i) := by
        funext i
        rw [show b + p + i = (b + i) + p by omega]
        exact h (b + i) (by omega)
      rw [q3] at q1
      rw [show b + (r + p) = b + p + r by omega]
      omega
    rw [h2]
    push_cast
    rw [Int.add_mul]
    omega
/-! ### promises -/
def sp_Loop_state (K : PySem.W.Frag) : Sp := fun vs H Q _ => ∃ (x : Addr) (w : List Nat) (m : Int), vs = [.ref x, vS w, .int m] ∧ ∃ M : LM, LoopAt K H x M ∧ GoodM M ∧ inAb M w ∧ 0 ≤ m ∧ ∀ H', Ex [] H H' → Q (vS (orb M w m.toNat)) H'
def sp_Loop_answer (K : PySem.W.Frag) : Sp := fun vs H Q _ => ∃ (x : Addr) (w : List Nat) (m : Int), vs = [.ref x, vS w, .int m] ∧ ∃ M : LM, LoopAt K H x M ∧ GoodM M ∧ inAb M w ∧ 1 ≤ m ∧ ∀ p H', Ex [] H H' → H' p = some (.tup [.int (cnt M w (m.toNat - 1)), .bl (decide (orb M w m.toNat ∈ M.ok))]) → Q (.ref p) H'
def ansV (M : LM) (w : List Nat) (n : Nat) : List (List V) := (List.range n).map fun i => [.int (cnt M w i), .bl (decide (orb M w (i + 1) ∈ M.ok))]
def sp_Loop_call (K : PySem.W.Frag) : Sp := fun vs H Q _ => ∃ (x : Addr) (w : List Nat) (m : Int), vs = [.ref x, vS w, .int m] ∧ ∃ M : LM, LoopAt K H x M ∧ GoodM M ∧ inAb M w ∧ 0 ≤ m ∧ m ≤ 99 ∧ ∀ p H', Ex [] H H' → TupsAt K H' p (ansV M w m.toNat) → Q (.ref p) H'
def sp_Loop_total (K : PySem.W.Frag) : Sp := fun vs H Q _ => ∃ (x : Addr) (w : List Nat) (m : Int), vs = [.ref x, vS w, .int m] ∧ ∃ M : LM, LoopAt K H x M ∧ GoodM M ∧ BndM M ∧ inAb M w ∧ 0 ≤ m ∧ m < 2 ^ 200 ∧ ∀ H', Ex [] H H' → Q (.int (tot (cnt M w) m.toNat)) H'
end WB
namespace WB
open PySem PySem.Spec PyProof.Rows L2
/-- values that are tuples -/
def Tups (K : PySem.W.Frag) (H : Hp) (xs : List V) (ls : List (List V)) : Prop := xs.length = ls.length ∧ ∀ (i : Nat) x l, xs[i]? = some x → ls[i]? = some l → ∃ p, x = .ref p ∧ SqT K H p l
section
variable {K : PySem.W.Frag} {H H' : Hp} {Q : VK} {E : XK} {t a x : Addr} {M : LM} {xs : List V} {ls : List (List V)}
theorem TupsAt.mk (h : SqT K H t xs) (h2 : Tups K H xs ls) : TupsAt K H t ls := ⟨xs, h, h2.1, h2.2⟩
theorem Tups.ex0 (e : Ex [] H H') (h : Tups K H xs ls) : Tups K H' xs ls := ⟨h.1, fun i x l h1 h2 => by
  obtain ⟨p, h3, h4⟩ := h.2 i x l h1 h2
  exact ⟨p, h3, e.sqT (by simp) h4⟩⟩
theorem Tups.nil : Tups K H [] [] := ⟨rfl, by simp⟩
theorem Tups.snoc {p : Addr} {l : List V} (h : Tups K H xs ls) (hp : SqT K H p l) : Tups K H (xs ++ [.ref p]) (ls ++ [l]) := by
  refine ⟨by simp [h.1], fun i x m h1 h2 => ?_⟩
  by_cases hi : i < xs.length
  · rw [List.getElem?_append_left hi] at h1
    rw [List.getElem?_append_left (by rw [← h.1]; exact hi)] at h2
    exact h.2 i x m h1 h2
  · rw [List.getElem?_append_right (by omega)] at h1
    rw [List.getElem?_append_right (by rw [← h.1]; omega)] at h2
    have : i = xs.length := by
      have := (List.getElem?_eq_some_iff.mp h1).1
      simp at this
      omega
    subst this
    rw [Nat.sub_self] at h1
    rw [h.1, Nat.sub_self] at h2
    simp at h1 h2
    subst h1 h2
    exact ⟨p, rfl, hp⟩
theorem Tups.app {ys : List V} {ms : List (List V)} (h : Tups K H xs ls) (h' : Tups K H ys ms) : Tups K H (xs ++ ys) (ls ++ ms) := by
  refine ⟨by simp [h.1, h'.1], fun i x m h1 h2 => ?_⟩
  by_cases hi : i < xs.length
  · rw [List.getElem?_append_left hi] at h1
    rw [List.getElem?_append_left (by rw [← h.1]; exact hi)] at h2
    exact h.2 i x m h1 h2
  · rw [List.getElem?_append_right (by omega)] at h1
    rw [List.getElem?_append_right (by rw [← h.1]; omega), ← h.1] at h2
    exact h'.2 _ x m h1 h2
theorem sqT_upd {D : Addr} {o ys : List V} (hd : H D = none ∨ ∃ l, H D = some (.lst l)) (h : SqT K H t ys) : SqT K (upd H D (.lst o)) t ys := by
  rcases hd with hd | ⟨l, hd⟩
  · exact (Ex.new (m := []) hd).sqT (by simp) h
  · exact sqT_lst hd (Ex.put (by simp)) h
theorem Tups.upd {D : Addr} {o : List V} (hd : H D = none ∨ ∃ l, H D = some (.lst l)) (h : Tups K H xs ls) : Tups K (L2.upd H D (.lst o)) xs ls := ⟨h.1, fun i x l h1 h2 => by
  obtain ⟨p, h3, h4⟩ := h.2 i x l h1 h2
  exact ⟨p, h3, sqT_upd hd h4⟩⟩
theorem lc_tups {α : Type} {J : It} {G : Hp → Prop} {Y : Nat → Hp → V → Hp → Prop} {j n : Nat} {te : TE} {σ : St} {l : List α} (w : Walk J n G Y) (hl : l.length = n) (hn : n ≤ 100000) (vl : α → V) (f : α → List V) (hY : ∀ i H1 x H2, i < n → Y i H1 x H2 → H2 = H1 ∧ ∃ a, l[i]? = some a ∧ x = vl a) (hG : ∀ H1, Ex [] H H1 → G H1)
    (h : ∀ a H1 (C : VK), a ∈ l → Ex [] H H1 → (∀ p H2, Ex [] H1 H2 → SqT K H2 p (f a) → C (.ref p) H2) → te ((wipe σ [j]).set j (some (vl a))) H1 C)
    (k : ∀ D H' xs, H D = none → Ex [] H H' → H' D = some (.lst xs) → Tups K H' xs (l.map f) → Q (.ref D) H') : LcW J (gName j) tYes te [j] σ H Q := by
  refine lc_run w hn [] (fun _ => True) (fun i acc H1 => Tups K H1 acc ((l.take i).map f)) (by simp) trivial (by simpa using Tups.nil) (fun _ _ _ _ _ => trivial) (fun _ _ _ _ _ hd h => h.upd hd) hG ?_ ?_
  · intro i acc x H1 H2 C1 C0 hi e _ ha hy k1 k0
    obtain ⟨rfl, a, hx, rfl⟩ := hY i H1 x H2 hi hy
    refine ⟨wipe1 _ _ _, s_yes (s_T rfl ?_)⟩
    refine h a _ C1 (List.mem_of_getElem? hx) e fun p H5 e5 hp => k1 _ H5 e5 trivial ?_
    rw [List.take_add_one, hx, List.map_append]
    exact (ha.ex0 e5).snoc hp
  · intro D H' ys hD e _ hd _ ha
    rw [← hl, List.take_length] at ha
    exact k D H' ys hD e hd ha
theorem lc_tupsR {lo : Int} {j n : Nat} {te : TE} {σ : St} (hn : n ≤ 100000) (f : Nat → List V)
    (h : ∀ i H1 (C : VK), i < n → Ex [] H H1 → (∀ p H2, Ex [] H1 H2 → SqT K H2 p (f i) → C (.ref p) H2) → te ((wipe σ [j]).set j (some (.int (lo + (i : Nat))))) H1 C)
    (k : ∀ D H' xs, H D = none → Ex [] H H' → H' D = some (.lst xs) → Tups K H' xs ((List.range n).map f) → Q (.ref D) H') : LcW (Itr lo n) (gName j) tYes te [j] σ H Q :=
  lc_tups (l := List.range n) walk_range (by simp) hn (fun i => .int (lo + (i : Nat))) f (fun i H1 x H2 hi hy => ⟨hy.1, i, List.getElem?_range hi, hy.2⟩) (fun _ _ => trivial) (fun i H1 C hi => h i H1 C (List.mem_range.mp hi)) k
theorem lc_tupsT {b : Addr} {l : List (List Nat)} {j : Nat} {te : TE} {σ : St} (hq : SqT K H b (l.map vS)) (hn : l.length ≤ 100000) (f : List Nat → List V)
    (h : ∀ a H1 (C : VK), a ∈ l → Ex [] H H1 → (∀ p H2, Ex [] H1 H2 → SqT K H2 p (f a) → C (.ref p) H2) → te ((wipe σ [j]).set j (some (vS a))) H1 C)
    (k : ∀ D H' xs, H D = none → Ex [] H H' → H' D = some (.lst xs) → Tups K H' xs (l.map f) → Q (.ref D) H') : LcW (Itt K b) (gName j) tYes te [j] σ H Q :=
  lc_tups (l := l) (walk_tup (xs := l.map vS)) (by simp) (by simpa using hn) vS f (fun i H1 x H2 hi hy => ⟨hy.1, by
    have h2 := hy.2
    rw [List.getElem?_map] at h2
    obtain ⟨a, h3, h4⟩ := Option.map_eq_some_iff.mp h2
    exact ⟨a, h3, h4.symm⟩⟩) (fun H1 e => e.sqT (by simp) hq) h k
theorem lc_tupsL {b : Addr} {l : List (List Nat)} {j : Nat} {te : TE} {σ : St} (hq : SqL K H b (l.map vS)) (hn : l.length ≤ 100000) (f : List Nat → List V)
    (h : ∀ a H1 (C : VK), a ∈ l → Ex [] H H1 → (∀ p H2, Ex [] H1 H2 → SqT K H2 p (f a) → C (.ref p) H2) → te ((wipe σ [j]).set j (some (vS a))) H1 C)
    (k : ∀ D H' xs, H D = none → Ex [] H H' → H' D = some (.lst xs) → Tups K H' xs (l.map f) → Q (.ref D) H') : LcW (Itl K b) (gName j) tYes te [j] σ H Q :=
  lc_tups (l := l) (walk_list (xs := l.map vS)) (by simp) (by simpa using hn) vS f (fun i H1 x H2 hi hy => ⟨hy.1, by
    have h2 := hy.2
    rw [List.getElem?_map] at h2
    obtain ⟨a, h3, h4⟩ := Option.map_eq_some_iff.mp h2
    exact ⟨a, h3, h4.symm⟩⟩) (fun H1 e => e.sqL (by simp) hq) h k
theorem lc_tupsS {l : List Nat} {j : Nat} {te : TE} {σ : St} (hn : l.length ≤ 100000) (f : Nat → List V)
    (h : ∀ c H1 (C : VK), c ∈ l → Ex [] H H1 → (∀ p H2, Ex [] H1 H2 → SqT K H2 p (f c) → C (.ref p) H2) → te ((wipe σ [j]).set j (some (vS [c]))) H1 C)
    (k : ∀ D H' xs, H D = none → Ex [] H H' → H' D = some (.lst xs) → Tups K H' xs (l.map f) → Q (.ref D) H') : LcW (Its (S l)) (gName j) tYes te [j] σ H Q :=
  lc_tups (l := l) (walk_str (z := S l)) (by simp [S]) (by simpa [S] using hn) (fun c => vS [c]) f (fun i H1 x H2 hi hy => ⟨hy.1, by
    obtain ⟨c, h2, h3⟩ := hy.2
    exact ⟨c, by simpa [S] using h2, h3⟩⟩) (fun _ _ => trivial) h k
theorem lc2_tups {o : Addr} {l : List (List Nat)} {m : List Nat} {j1 j2 : Nat} {wi : TI} {te : TE} {σ : St} (ne : j1 ≠ j2) (ho : SqT K H o (l.map vS)) (hl : l.length ≤ 600) (hm : m.length ≤ 600) (f : List Nat → Nat → List V)
    (hw : ∀ a H1 (R : It → Hp → Prop), Ex [] H H1 → R (Its (S m)) H1 → wi ((wipe σ [j1, j2]).set j1 (some (vS a))) H1 R)
    (h : ∀ a c H1 (C : VK), a ∈ l → c ∈ m → Ex [] H H1 → (∀ p H2, Ex [] H1 H2 → SqT K H2 p (f a c) → C (.ref p) H2) → te ((wipe ((wipe σ [j1, j2]).set j1 (some (vS a))) [j2]).set j2 (some (vS [c]))) H1 C)
    (q : ∀ D H' xs, H D = none → Ex [] H H' → H' D = some (.lst xs) → Tups K H' xs (l.flatMap fun a => m.map (f a)) → Q (.ref D) H') : Lc2W (Itt K o) (gName j1) tYes wi (gName j2) tYes te [j1, j2] [j2] σ H Q := by
  intro D hD
  have hs : ∀ z : List Nat, (S z).cps.size = z.length := fun z => by simp [S]
  have w1 := walk_tup (K := K) (a := o) (xs := l.map vS)
  rw [List.length_map] at w1
  have w2 := walk_str (z := S m)
  rw [hs] at w2
  have hso : ∀ {H1 : Hp}, Ex [] H H1 → SqT K H1 o (l.map vS) := fun e => e.sqT (by simp) ho
  have len : ∀ i, ((l.take i).flatMap fun a => m.map (f a)).length ≤ 360000 := fun i => by
    have : ∀ l : List (List Nat), (l.flatMap fun a => m.map (f a)).length = l.length * m.length := by
      intro l
      induction l with
      | nil => simp
      | cons a l ih => rw [List.flatMap_cons, List.length_append, ih, List.length_map, List.length_cons, Nat.succ_mul, Nat.add_comm]
    rw [this]
    exact Nat.mul_le_mul (Nat.le_trans (by rw [List.length_take]; omega) hl) hm
  refine ⟨fun i r H' => r = l.length - i ∧ i ≤ l.length ∧ Ex [] H H' ∧ ∃ xs, H' D = some (.lst xs) ∧ Tups K H' xs ((l.take i).flatMap fun a => m.map (f a)), ⟨_, rfl, Nat.zero_le _, Ex.new hD, [], upd_same, by simpa using Tups.nil⟩, ?_⟩
  rintro i r H1 ⟨rfl, hi, e1, xs, h1, t1⟩
  by_cases hlt : i < l.length
  rotate_left
  · have : i = l.length := by omega
    subst this
    rw [List.take_length] at t1
    exact .inl ⟨w1.stops _ (hso e1), q D H1 xs hD e1 h1 t1⟩
  refine .inr ⟨w1.goes _ _ hlt (hso e1), fun H' => Ex [] H H' ∧ ∃ xs, H' D = some (.lst xs) ∧ Tups K H' xs ((l.take (i + 1)).flatMap fun a => m.map (f a)), fun H' hn => ⟨_, by omega, rfl, by omega, hn.1, hn.2⟩, fun x H2 hy => ?_⟩
  obtain ⟨rfl, hx⟩ := w1.yields _ _ _ _ hlt (hso e1) hy
  rw [List.getElem?_map] at hx
  obtain ⟨a, ha, rfl⟩ := Option.map_eq_some_iff.mp hx
  have htk : ((l.take (i + 1)).flatMap fun a => m.map (f a)) = ((l.take i).flatMap fun a => m.map (f a)) ++ m.map (f a) := by
    rw [List.take_add_one, ha, List.flatMap_append]
    simp
  refine ⟨?_, ?_⟩
  · show (((((σ.set j2 none).set j1 none).set j1 (some (vS a))).set j2 none).set j1 none) = (σ.set j2 none).set j1 none
    rw [List.set_set, List.set_comm (l := σ.set j2 none) _ _ ne, List.set_set, List.set_set]
  refine s_yes (s_T rfl ?_)
  refine hw a _ _ e1 ?_
  refine ⟨fun j r H' => r = m.length - j ∧ j ≤ m.length ∧ Ex [] H H' ∧ ∃ xs, H' D = some (.lst xs) ∧ Tups K H' xs (((l.take i).flatMap fun a => m.map (f a)) ++ (m.take j).map (f a)), ⟨_, rfl, Nat.zero_le _, e1, xs, h1, by simpa using t1⟩, ?_⟩
  rintro j r H3 ⟨rfl, hj, e3, ys, h3, t3⟩
  by_cases hlt2 : j < m.length
  rotate_left
  · have : j = m.length := by omega
    subst this
    rw [List.take_length, ← htk] at t3
    exact .inl ⟨w2.stops _ trivial, e3, ys, h3, t3⟩
  refine .inr ⟨w2.goes _ _ hlt2 trivial, fun H' => Ex [] H H' ∧ ∃ xs, H' D = some (.lst xs) ∧ Tups K H' xs (((l.take i).flatMap fun a => m.map (f a)) ++ (m.take (j + 1)).map (f a)), fun H' hn => ⟨_, by omega, rfl, by omega, hn.1, hn.2⟩, fun x H4 hy => ?_⟩
  obtain ⟨rfl, d, hd, rfl⟩ := w2.yields _ _ _ _ hlt2 trivial hy
  have hd : m[j]? = some d := by simpa [S] using hd
  refine ⟨wipe1 _ _ _, s_yes (s_T rfl ?_)⟩
  refine h a d _ _ (List.mem_of_getElem? ha) (List.mem_of_getElem? hd) e3 fun p H5 e5 hp => ⟨ys, e5 D _ (by simp) h3, ?_, ?_, ys ++ [.ref p], upd_same, ?_⟩
  · have := t3.1
    rw [this, List.length_append, List.length_map, List.length_take]
    have := len i
    exact Nat.lt_of_le_of_lt (show _ ≤ 361000 by omega) (by decide)
  · intro b o _ hb
    rw [upd_ne (ne_of_none hb hD)]
    exact e5 b o (by simp) (e3 b o (by simp) hb)
  · refine Tups.upd (.inr ⟨ys, e5 D _ (by simp) h3⟩) ?_
    rw [List.take_add_one, hd, List.map_append, ← List.append_assoc]
    exact (t3.ex0 e5).snoc hp
theorem s_catA {b : Addr} {ys : List V} (h1 : SqT K H a xs) (h2 : SqT K H b ys) (hl : xs.length + ys.length ≤ 1000) (hx : xs ≠ []) (hy : ys ≠ []) (k : ∀ p H2, H p = none → Ex [] H H2 → H2 p = some (.tup (xs ++ ys)) → Q (.ref p) H2) : rCatA K (.ref a) (.ref b) H Q :=
  ⟨a, b, xs, ys, rfl, rfl, h1, h2, Nat.le_trans hl (by decide), fun e => absurd e hx, fun _ e => absurd e hy, fun _ _ => s_new k⟩
theorem u_place_of {i N : Int} {n b : Nat} (hN : N = (n : Nat)) (h0 : 0 ≤ i) (hb : b < n) (k : Q (.int (plc i.toNat n b : Nat)) H) : sp_place_of K ([.int i, .int N, .int (b : Nat)] ++ []) H Q E := by
  refine ⟨i, N, b, rfl, by omega, ?_⟩
  have e : (if i < N then i else (b : Int) + (i - b) % (N - b)) = (plc i.toNat n b : Nat) := by
    unfold plc
    split
    · rw [if_pos (by omega)]; omega
    · rw [if_neg (by omega), hN]
      have h1 : i - (b : Int) = ((i.toNat - b : Nat) : Int) := by omega
      have h2 : (n : Int) - (b : Int) = ((n - b : Nat) : Int) := by omega
      rw [h1, h2]
      push_cast
      omega
  rw [e]
  exact k
theorem s_sum {ns : List Int} (h : SqL K H a (ns.map V.int)) (k : Q (.int ns.sum) H) : rSum K [.ref a] H Q := ⟨a, ns, rfl, h, k⟩
theorem s_mulW {i j : Int} (h : CMulW i j) (k : Q (.int (i * j)) H) : (rI CMulW fun i j => .int (i * j)) (.int i) (.int j) H Q := ⟨i, j, rfl, rfl, h, k⟩
/-! ### rows, turns, row -/
def rwsOf (M : LM) : List Rw := M.st.flatMap fun a => M.ab.map fun c => ⟨a, c, (M.tb a c).1, (M.tb a c).2⟩
def tnsOf (M : LM) : List Tn := M.st.map fun a => ⟨a, (M.en a).1, (M.en a).2⟩
def LRowAt (K : PySem.W.Frag) (H : Hp) (p : Addr) (M : LM) : Prop := ∃ o r t y, SqT K H p [vS M.ab, .ref o, .ref r, .ref t, .ref y] ∧ SqT K H o (M.st.map vS) ∧ TupsAt K H r ((rwsOf M).map rwV) ∧ TupsAt K H t ((tnsOf M).map tnV) ∧ SqT K H y (M.ok.map vS)
theorem LRowAt.ex0 {p : Addr} (e : Ex [] H H') (h : LRowAt K H p M) : LRowAt K H' p M := by
  obtain ⟨o, r, t, y, h1, h2, h3, h4, h5⟩ := h
  exact ⟨o, r, t, y, e.sqT (by simp) h1, e.sqT (by simp) h2, h3.ex0 e, h4.ex0 e, e.sqT (by simp) h5⟩
def sp_Loop_rows (K : PySem.W.Frag) : Sp := fun vs H Q _ => ∃ x : Addr, vs = [.ref x] ∧ ∃ M : LM, LoopAt K H x M ∧ GoodM M ∧ ∀ p H', Ex [] H H' → TupsAt K H' p ((rwsOf M).map rwV) → Q (.ref p) H'
def sp_Loop_turns (K : PySem.W.Frag) : Sp := fun vs H Q _ => ∃ x : Addr, vs = [.ref x] ∧ ∃ M : LM, LoopAt K H x M ∧ GoodM M ∧ ∀ p H', Ex [] H H' → TupsAt K H' p ((tnsOf M).map tnV) → Q (.ref p) H'
def sp_Loop_row (K : PySem.W.Frag) : Sp := fun vs H Q _ => ∃ x : Addr, vs = [.ref x] ∧ ∃ M : LM, LoopAt K H x M ∧ GoodM M ∧ ∀ p H', Ex [] H H' → LRowAt K H' p M → Q (.ref p) H'
end
end WB
namespace WB
open PySem PySem.Spec PyProof.Rows L2
local macro_rules | `(tactic| walk_at "lit") => `(tactic| first | exact lit_abc | exact lit_empty)
local macro_rules | `(tactic| walk_at "nm") => `(tactic| focus first | exact List.not_mem_nil | (simp only [List.mem_singleton]; first | assumption | (exact Ne.symm (by assumption)) | (intro hz; subst hz; simp_all; done)))
local macro_rules | `(tactic| walk_at "hp") => `(tactic| first | assumption | (apply Ex.get0 (by assumption); walk_at "hp") | (apply Ex.get (by assumption); (walk_at "nm"); (walk_at "hp")))
local macro_rules | `(tactic| walk_at "sq") => `(tactic| first | assumption | (apply SqL.of; walk_at "hp") | (apply Ex.sqL (by assumption); (walk_at "nm"); (walk_at "sq")))
local macro_rules | `(tactic| walk_at "sqt") => `(tactic| first | assumption | (apply SqT.of; walk_at "hp") | (apply Ex.sqT (by assumption); (walk_at "nm"); (walk_at "sqt")))
local macro_rules | `(tactic| walk_at "sz") => `(tactic| focus ((with_reducible refine Nat.le_trans (m := 100000) ?_ (by decide)); first | omega | (simp; done) | (simp; omega)))
local macro_rules | `(tactic| walk_at "mul") => `(tactic| first | exact Or.inr ⟨by omega, by omega⟩ | exact Or.inl ⟨by omega, by omega⟩)
local macro_rules | `(tactic| walk_at "pool") => `(tactic| first | assumption | (apply PoolAt.ex (by assumption); (walk_at "nm"); (walk_at "pool")))
local macro_rules | `(tactic| walk_at "ring") => `(tactic| first | assumption | (apply RingAt.ex (by assumption); (walk_at "nm"); (walk_at "ring")))
local macro_rules | `(tactic| walk_at "st") => `(tactic| first
  | with_reducible refine s_seq ?_
  | with_reducible refine s_asg ?_
  | with_reducible refine s_gName ?_
  | with_reducible refine s_ret ?_
  | with_reducible refine s_ifS ?_
  | with_reducible refine s_next ?_
  | with_reducible refine s_op ?_
  | ((with_reducible apply s_var); exact rfl)
  | ((with_reducible apply s_cS); (walk_at "lit"))
  | with_reducible refine s_c ?_
  | with_reducible refine s_cb ?_
  | with_reducible refine s_cons ?_
  | with_reducible refine s_nil ?_
  | with_reducible refine s_un ?_
  | with_reducible refine s_call ?_
  | with_reducible refine s_test ?_
  | with_reducible refine s_tB ?_
  | with_reducible refine s_blQ ?_
  | with_reducible refine s_not ?_
  | with_reducible refine s_and ?_
  | with_reducible refine s_or ?_
  | with_reducible refine s_andV ?_
  | with_reducible refine s_orV ?_
  | with_reducible refine s_notV ?_
  | with_reducible refine s_ifE ?_
  | with_reducible refine s_chain ?_
  | ((with_reducible refine s_T ?_ ?_); (with_reducible exact rfl))
  | with_reducible refine s_nT ?_
  | with_reducible refine s_nF ?_
  | ((with_reducible refine s_F ?_ ?_); (with_reducible exact rfl))
  | ((with_reducible refine s_T ?_ ?_); assumption)
  | ((with_reducible refine s_F ?_ ?_); assumption)
  | ((with_reducible refine s_nB ?_ ?_); assumption)
  | ((with_reducible refine s_nA ?_ ?_); assumption)
  | ((with_reducible refine s_Td ?_ ?_); omega)
  | ((with_reducible refine s_Fd ?_ ?_); omega)
  | ((with_reducible refine s_nTd ?_ ?_); omega)
  | ((with_reducible refine s_nFd ?_ ?_); omega)
  | with_reducible refine s_sfld ?_
  | with_reducible refine s_addI ?_
  | with_reducible refine s_subI ?_
  | ((with_reducible refine s_mulI ?_ ?_); (walk_at "mul"))
  | ((with_reducible refine s_divI ?_ ?_); exact ⟨by omega, by omega⟩)
  | ((with_reducible refine s_modI ?_ ?_); omega)
  | ((with_reducible refine s_powI ?_ ?_); exact ⟨by decide, by decide, by decide⟩)
  | with_reducible refine s_ltI ?_
  | with_reducible refine s_leI ?_
  | with_reducible refine s_gtI ?_
  | with_reducible refine s_geI ?_
  | with_reducible refine s_negI ?_
  | with_reducible refine s_absI ?_
  | with_reducible refine s_intI ?_
  | with_reducible refine s_min2 ?_
  | with_reducible refine s_max2 ?_
  | with_reducible refine s_eqI ?_
  | with_reducible refine s_neI ?_
  | with_reducible refine s_eqS ?_
  | with_reducible refine s_neS ?_
  | with_reducible refine s_inSg ?_
  | with_reducible refine s_notInSg ?_
  | ((with_reducible refine s_addS ?_ ?_); (walk_at "sz"))
  | ((with_reducible refine s_lenS ?_ ?_); (walk_at "sz"))
  | ((with_reducible apply s_lenL); (walk_at "sq"))
  | ((with_reducible apply s_lenT); (walk_at "sqt"))
  | ((with_reducible apply s_ixL); (walk_at "sq"); exact rfl)
  | ((with_reducible apply s_ixT); (walk_at "sqt"); exact rfl)
  | with_reducible refine s_gSub ?_
  | ((with_reducible apply s_setL); (walk_at "hp"); (exact rfl); (intro _ _ _))
  | ((with_reducible refine s_alloc ?_ ?_); (walk_at "sz"); (intro _ _ _ _ _))
  | ((with_reducible refine s_divmod ?_ ?_); (exact ⟨by omega, PyProof.noPylong_small (by omega)⟩); (intro _ _ _ _ _))
  | ((with_reducible apply s_gTup); (walk_at "sqt"); (exact rfl))
  | ((with_reducible apply s_gLst); (walk_at "sq"); (exact rfl))
  | with_reducible refine s_gCons ?_
  | with_reducible refine s_gNil ?_
  | with_reducible refine s_lc ?_
  | ((with_reducible apply s_cat); (walk_at "hp"); (walk_at "hp"); (walk_at "sz"); (intro _ _ _ _ _))
  | ((with_reducible apply s_slL); (walk_at "sq"); (intro _ _ _ _ _))
  | with_reducible refine s_for ?_
  | with_reducible refine s_rng1 ?_
  | ((with_reducible refine s_rng1i ?_ ?_); (constructor <;> omega))
  | with_reducible refine s_rng2 ?_
  | ((with_reducible refine s_rng2i ?_ ?_); (refine ⟨?_, ?_, ?_, ?_⟩ <;> omega))
  | with_reducible refine s_iStr ?_
  | with_reducible refine s_iStrS ?_
  | with_reducible refine s_iList ?_
  | ((with_reducible apply s_iListA); (walk_at "sq"))
  | with_reducible refine s_iTup ?_
  | ((with_reducible apply s_iTupA); (walk_at "sqt"))
  | with_reducible refine s_sl ?_
  | with_reducible refine s_noPart ?_
  | with_reducible refine s_part ?_
  | with_reducible refine s_int1 ?_
  | ((with_reducible refine s_slS ?_ ?_); (walk_at "sz"))
  | with_reducible refine s_tup ?_
  | with_reducible refine s_lst ?_
  | with_reducible refine s_par ?_
  | with_reducible refine s_pair ?_
  | with_reducible refine s_M1 ?_
  | with_reducible refine s_isStr ?_
  | with_reducible refine s_revS ?_
  | ((with_reducible refine s_revS1 ?_ ?_); (walk_at "sz"))
  | with_reducible refine s_fldE ?_
  | with_reducible refine s_propE ?_
  | ((with_reducible refine u_draw ?_ ?_ ?_ ?_); omega; omega; (walk_at "pool"); (intro _ _ _ _ _ _))
  | ((with_reducible refine u_pool ?_); (intro _ _ _ _ _))
  | with_reducible refine u_is_integer ?_
  | with_reducible refine s_isiII ?_
  | with_reducible refine s_isiIB ?_
  | with_reducible refine s_isiSS ?_
  | ((with_reducible apply u_fldRing); assumption; (walk_at "ring"))
  | ((with_reducible apply u_textP); (walk_at "ring"))
  | ((with_reducible apply u_strRing); (walk_at "ring"))
  | ((with_reducible apply u_eqRing); (walk_at "ring"); (walk_at "ring"))
  | ((with_reducible apply u_isiRing); assumption; (walk_at "ring"))
  | ((with_reducible refine u_is_word ?_ ?_); omega; (intro _ _))
  | ((with_reducible refine u_turnings ?_ ?_); omega; (intro _ _ _ _ _))
  | with_reducible refine s_makeE ?_
  | with_reducible refine s_methE ?_)
local macro_rules | `(tactic| walk_at "go") => `(tactic| repeat (walk_at "st"))
local macro_rules | `(tactic| walk_at "exs") => `(tactic| first | exact Ex.rfl | assumption | (apply Ex.snoc (by assumption); walk_at "exs") | (apply Ex.snocW (by assumption); walk_at "exs"))
local macro_rules | `(tactic| walk_at "kind") => `(tactic| first | assumption | (apply KindAt.ex0 (by assumption); (walk_at "kind")) | (apply KindAt.exP (by assumption) (by assumption); (walk_at "kind")))
local macro_rules | `(tactic| walk_at "st") => `(tactic| first
  | with_reducible refine s_lenSet ?_
  | with_reducible refine s_drop ?_
  | with_reducible refine s_bm ?_
  | with_reducible refine s_notN ?_
  | with_reducible refine s_isN ?_
  | ((with_reducible apply s_tyL); (walk_at "hp"))
  | with_reducible refine s_enumT ?_
  | ((with_reducible apply s_enumTA); (walk_at "sqt"))
  | with_reducible refine s_lc2 ?_)
local macro_rules | `(tactic| walk_at "lit") => `(tactic| exact lit_MRK)
local macro_rules | `(tactic| walk_at "st") => `(tactic| first
  | with_reducible refine s_dcT ?_
  | with_reducible refine s_dc ?_)
/-- Loop.__call__: 0 self 1 text 2 rounds 3 states 4 counts 5 begin 6 places 7 at -/
def t_Loop_call (K : PySem.W.Frag) : TS :=
  (tSeq (tAsg (tMeth (He.ga K "Loop") "history" (sp_Loop_history K) [] E0 (tVar 0) (tCons (tVar 1) tNil)) (gTup K 3 (gCons (gName 3) (gCons (gName 4) (gCons (gName 5) gNil)))))
  (tSeq (tIfS (tNot (tB (tCall (sp_is_within K) [] E0 (tCons (tVar 2) (tCons (tC (.int 0)) (tCons (tC (.int 99)) tNil)))))) tNever tNext)
  (tSeq (tAsg (tLc (iRng1 (tCons (tOp rAddI (tVar 2) (tC (.int 1))) tNil)) (gName 7) tYes (tCall (sp_place_of K) [] E0 (tCons (tVar 7) (tCons (tCB (rLenV K) (tCons (tVar 3) tNil)) (tCons (tVar 5) tNil)))) [7]) (gName 6))
  (tRet (tCB (rTupOf K) (tCons (tLc (iRng1 (tCons (tVar 2) tNil)) (gName 7) tYes (tTup (tCons (tOp (rIxL K) (tVar 4) (tOp (rIxL K) (tVar 6) (tVar 7))) (tCons (tOp (rIn K false) (tOp (rIxL K) (tVar 3) (tOp (rIxL K) (tVar 6) (tOp rAddI (tVar 7) (tC (.int 1))))) (tFld K (tVar 0) "marked")) tNil))) [7]) tNil))))))
/-- Loop.answer: 0 self 1 text 2 lap 3 states 4 counts 5 begin 6 count -/
def t_Loop_answer (K : PySem.W.Frag) : TS :=
  (tSeq (tAsg (tMeth (He.ga K "Loop") "history" (sp_Loop_history K) [] E0 (tVar 0) (tCons (tVar 1) tNil)) (gTup K 3 (gCons (gName 3) (gCons (gName 4) (gCons (gName 5) gNil)))))
  (tSeq (tIfS (tOr (tNot (tB (tCall (sp_is_integer K) [] E0 (tCons (tVar 2) tNil)))) (tTest (tOp rLtI (tVar 2) (tC (.int 1))))) tNever tNext)
  (tSeq (tAsg (tOp (rIxL K) (tVar 4) (tCall (sp_place_of K) [] E0 (tCons (tOp rSubI (tVar 2) (tC (.int 1))) (tCons (tCB (rLenV K) (tCons (tVar 3) tNil)) (tCons (tVar 5) tNil))))) (gName 6))
  (tRet (tTup (tCons (tVar 6) (tCons (tOp (rIn K false) (tOp (rIxL K) (tVar 3) (tCall (sp_place_of K) [] E0 (tCons (tVar 2) (tCons (tCB (rLenV K) (tCons (tVar 3) tNil)) (tCons (tVar 5) tNil))))) (tFld K (tVar 0) "marked")) tNil)))))))
/-- Loop.state: 0 self 1 text 2 rounds 3 states 4 counts 5 begin -/
def t_Loop_state (K : PySem.W.Frag) : TS :=
  (tSeq (tAsg (tMeth (He.ga K "Loop") "history" (sp_Loop_history K) [] E0 (tVar 0) (tCons (tVar 1) tNil)) (gTup K 3 (gCons (gName 3) (gCons (gName 4) (gCons (gName 5) gNil)))))
  (tSeq (tIfS (tOr (tNot (tB (tCall (sp_is_integer K) [] E0 (tCons (tVar 2) tNil)))) (tTest (tOp rLtI (tVar 2) (tC (.int 0))))) tNever tNext)
  (tRet (tOp (rIxL K) (tVar 3) (tCall (sp_place_of K) [] E0 (tCons (tVar 2) (tCons (tCB (rLenV K) (tCons (tVar 3) tNil)) (tCons (tVar 5) tNil))))))))
/-- Loop.total: 0 self 1 text 2 rounds 3 states 4 counts 5 begin 6 times 7 rest -/
def t_Loop_total (K : PySem.W.Frag) : TS :=
  (tSeq (tAsg (tMeth (He.ga K "Loop") "history" (sp_Loop_history K) [] E0 (tVar 0) (tCons (tVar 1) tNil)) (gTup K 3 (gCons (gName 3) (gCons (gName 4) (gCons (gName 5) gNil)))))
  (tSeq (tIfS (tOr (tNot (tB (tCall (sp_is_integer K) [] E0 (tCons (tVar 2) tNil)))) (tTest (tOp rLtI (tVar 2) (tC (.int 0))))) tNever tNext)
  (tSeq (tIfS (tTest (tOp rLtI (tVar 2) (tVar 5))) (tRet (tCB (rSum K) (tCons (tSl (rSlL K) (tVar 4) tNoPart (tPart (tVar 2))) tNil))) tNext)
  (tSeq (tAsg (tCB rDivmod (tCons (tOp rSubI (tVar 2) (tVar 5)) (tCons (tOp rSubI (tCB (rLenV K) (tCons (tVar 4) tNil)) (tVar 5)) tNil))) (gTup K 2 (gCons (gName 6) (gCons (gName 7) gNil))))
  (tRet (tOp rAddI (tCB (rSum K) (tCons (tSl (rSlL K) (tVar 4) tNoPart (tPart (tOp rAddI (tVar 5) (tVar 7)))) tNil)) (tOp (rI CMulW fun i j => .int (i * j)) (tVar 6) (tCB (rSum K) (tCons (tSl (rSlL K) (tVar 4) (tPart (tVar 5)) tNoPart) tNil)))))))))
/-- Loop.rows: 0 self 1 state 2 sign -/
def t_Loop_rows (K : PySem.W.Frag) : TS :=
  (tRet (tCB (rTupOf K) (tCons (tLc2 (iTup K (tFld K (tVar 0) "order")) (gName 1) tYes (iStr (tFld K (tVar 0) "letters")) (gName 2) tYes (tOp (rCatA K) (tTup (tCons (tVar 1) (tCons (tVar 2) tNil))) (tDGet (tFld K (tVar 0) "table") (tTup (tCons (tVar 1) (tCons (tVar 2) tNil))))) [1, 2] [2]) tNil)))
/-- Loop.turns: 0 self 1 state -/
def t_Loop_turns (K : PySem.W.Frag) : TS :=
  (tRet (tCB (rTupOf K) (tCons (tLc (iTup K (tFld K (tVar 0) "order")) (gName 1) tYes (tOp (rCatA K) (tTup (tCons (tVar 1) tNil)) (tDGet (tFld K (tVar 0) "ending") (tVar 1))) [1]) tNil)))
/-- Loop.row: 0 self -/
def t_Loop_row (K : PySem.W.Frag) : TS :=
  (tRet (tTup (tCons (tFld K (tVar 0) "letters") (tCons (tFld K (tVar 0) "order") (tCons (tProp (He.ga K "Loop") (sp_Loop_rows K) [] E0 (tVar 0)) (tCons (tProp (He.ga K "Loop") (sp_Loop_turns K) [] E0 (tVar 0)) (tCons (tFld K (tVar 0) "marked") tNil)))))))
section
variable {K : PySem.W.Frag} {vs : List V} {H H' : Hp} {Q : VK} {E : XK} {x : Addr} {M : LM}
theorem his_orb {w : List Nat} {n b i : Nat} (hb : b < n) (ho : orb M w n = orb M w b) : ((List.range n).map fun i => vS (orb M w i))[plc i n b]? = some (vS (orb M w i)) := by
  rw [List.getElem?_map, List.getElem?_range (plc_lt hb)]
  exact congrArg (fun z => some (vS z)) (orb_plc hb ho i)
theorem his_cnt {w : List Nat} {n b i : Nat} (hb : b < n) (ho : orb M w n = orb M w b) : ((List.range n).map fun i => V.int (cnt M w i))[plc i n b]? = some (.int (cnt M w i)) := by
  rw [List.getElem?_map, List.getElem?_range (plc_lt hb)]
  exact congrArg (fun z => some (V.int z)) (cnt_plc hb ho i)
theorem u_history {w : List Nat} (hx : LoopAt K H x M) (g : GoodM M) (hw : inAb M w) (k : ∀ p q r H' n b, Ex [] H H' → n ≤ 6 → b < n → orb M w n = orb M w b → H' p = some (.tup [.ref q, .ref r, .int (b : Nat)]) → H' q = some (.lst ((List.range n).map fun i => vS (orb M w i))) → H' r = some (.lst ((List.range n).map fun i => .int (cnt M w i))) → Q (.ref p) H') : sp_Loop_history K (.ref x :: ([vS w] ++ [])) H Q E :=
  ⟨x, w, rfl, M, hx, g, hw, fun p H1 n b e hn hb ho ⟨q, r, h1, h2, h3⟩ => k p q r H1 n b e hn hb ho h1 h2 h3⟩
theorem pure_Loop_state (F : LoopK K) (h : sp_Loop_state K vs H Q E) : t_Loop_state K (E1 Q) (start ["self", "text", "rounds", "states", "counts", "begin"] vs) H := by
  obtain ⟨x, w, m, rfl, M, hx, g, hw, hm, k⟩ := h
  show t_Loop_state K (E1 Q) [some (.ref x), some (vS w), some (.int m), none, none, none] H
  unfold t_Loop_state
  walk_at "go"
  refine u_methLoop hx rfl ?_
  walk_at "go"
  refine u_history hx g hw fun p q r H1 n b e1 hn hb ho h1 h2 h3 => ?_
  walk_at "go"
  refine u_place_of (n := n) (by simp) hm hb ?_
  walk_at "go"
  refine s_ixL (SqL.of h2) (atI_of (by omega) (his_orb hb ho)) ?_
  exact k _ e1
theorem pure_Loop_answer (F : LoopK K) (h : sp_Loop_answer K vs H Q E) : t_Loop_answer K (E1 Q) (start ["self", "text", "lap", "states", "counts", "begin", "count"] vs) H := by
  obtain ⟨x, w, m, rfl, M, hx, g, hw, hm, k⟩ := h
  show t_Loop_answer K (E1 Q) [some (.ref x), some (vS w), some (.int m), none, none, none, none] H
  unfold t_Loop_answer
  walk_at "go"
  refine u_methLoop hx rfl ?_
  walk_at "go"
  refine u_history hx g hw fun p q r H1 n b e1 hn hb ho h1 h2 h3 => ?_
  walk_at "go"
  refine u_place_of (n := n) (by simp) (by omega) hb ?_
  walk_at "go"
  refine s_ixL (SqL.of h3) (atI_of (by omega) (his_cnt hb ho)) ?_
  walk_at "go"
  refine u_place_of (n := n) (by simp) (by omega) hb ?_
  walk_at "go"
  refine s_ixL (SqL.of h2) (atI_of (by omega) (his_orb hb ho)) ?_
  walk_at "go"
  refine u_fMarked F (hx.ex0 e1) fun tm htm => ?_
  walk_at "go"
  refine s_inT htm ?_
  walk_at "go"
  rename_i p2 H2 np2 e2 h4
  rw [show (m - 1).toNat = m.toNat - 1 by omega] at h4
  exact k _ _ (e1.trans e2) h4
theorem pure_Loop_call (F : LoopK K) (h : sp_Loop_call K vs H Q E) : t_Loop_call K (E1 Q) (start ["self", "text", "rounds", "states", "counts", "begin", "places", "at"] vs) H := by
  obtain ⟨x, w, m, rfl, M, hx, g, hw, hm, hm9, k⟩ := h
  show t_Loop_call K (E1 Q) [some (.ref x), some (vS w), some (.int m), none, none, none, none, none] H
  unfold t_Loop_call
  walk_at "go"
  refine u_methLoop hx rfl ?_
  walk_at "go"
  refine u_history hx g hw fun p q r H1 n b e1 hn hb ho h1 h2 h3 => ?_
  walk_at "go"
  refine u_within ?_
  walk_at "go"
  refine lc_mapR (by omega) (fun i => .int (plc i n b : Nat)) (fun i H2 C hi e2 kc => ?_) fun D H2 hD e2 h4 => ?_
  · walk_at "go"
    refine u_place_of (n := n) (by simp) (by omega) hb ?_
    rw [show ((0 : Int) + (i : Nat)).toNat = i by omega]
    exact kc _ Ex.rfl
  walk_at "go"
  have e02 := e1.trans e2
  have h2' := e2.get0 h2
  have h3' := e2.get0 h3
  have hpl : ∀ i : Nat, i < m.toNat + 1 → ((List.range (m + 1).toNat).map fun i => V.int (plc i n b : Nat))[i]? = some (.int (plc i n b : Nat)) := fun i hi => by
    rw [List.getElem?_map, List.getElem?_range (by omega)]
    rfl
  clear e1 e2 h2 h3 h1
  refine lc_tupsR (K := K) (by omega) (fun i => [.int (cnt M w i), .bl (decide (orb M w (i + 1) ∈ M.ok))]) (fun i H3 C hi e3 kc => ?_) fun D2 H3 xs hD2 e3 h5 t5 => ?_
  · have h2 := e3.get0 h2'
    have h3 := e3.get0 h3'
    have h4 := e3.get0 h4
    walk_at "go"
    refine s_ixL (SqL.of h4) (atI_of (by omega) (by rw [show ((0 : Int) + (i : Nat)).toNat = i by omega]; exact hpl i (by omega))) ?_
    refine s_ixL (SqL.of h3) (atI_of (by omega) (his_cnt hb ho)) ?_
    walk_at "go"
    refine s_ixL (SqL.of h4) (atI_of (by omega) (by rw [show ((0 : Int) + (i : Nat) + 1).toNat = i + 1 by omega]; exact hpl (i + 1) (by omega))) ?_
    refine s_ixL (SqL.of h2) (atI_of (by omega) (his_orb hb ho)) ?_
    walk_at "go"
    refine u_fMarked F ((hx.ex0 e02).ex0 e3) fun tm htm => ?_
    walk_at "go"
    refine s_inT htm ?_
    walk_at "go"
    rename_i p2 H4 np2 e4 h6
    exact kc _ _ e4 (SqT.of h6)
  walk_at "go"
  refine s_tupOf (SqL.of h5) fun u H4 hu e4 h6 => ?_
  exact k _ _ ((e02.trans e3).trans e4) (TupsAt.mk (SqT.of h6) (t5.ex0 e4))
theorem map_int (f : Nat → Int) (n : Nat) : ((List.range n).map fun i => V.int (f i)) = ((List.range n).map f).map V.int := by rw [List.map_map]; rfl
theorem take_int (f : Nat → Int) {n m : Nat} (h : m ≤ n) : ((List.range n).map fun i => V.int (f i)).take m = ((List.range m).map f).map V.int := by
  rw [← List.map_take, List.take_range, Nat.min_eq_left h, List.map_map]; rfl
theorem drop_int (f : Nat → Int) {n b : Nat} (h : b ≤ n) : ((List.range n).map fun i => V.int (f i)).drop b = ((List.range (n - b)).map fun i => f (b + i)).map V.int := by
  apply List.ext_getElem
  · simp
  · intro i h1 h2
    simp
theorem cutV_from {xs : List V} {n : Int} (h0 : 0 ≤ n) : cutV xs (some n) none = xs.drop n.toNat := by
  unfold cutV
  have e : HT.sIx xs.length 0 (some n) = min n.toNat xs.length := by
    show (if n < 0 then (n + (xs.length : Int)).toNat else min n.toNat xs.length) = _
    rw [if_neg (by omega)]
  have e2 : HT.sIx xs.length xs.length none = xs.length := rfl
  rw [e, e2]
  rcases Nat.le_total n.toNat xs.length with h | h
  · rw [Nat.min_eq_left h, List.take_of_length_le (by simp)]
  · rw [Nat.min_eq_right h]
    simp [List.drop_eq_nil_of_le h]
theorem pure_Loop_total (F : LoopK K) (h : sp_Loop_total K vs H Q E) : t_Loop_total K (E1 Q) (start ["self", "text", "rounds", "states", "counts", "begin", "times", "rest"] vs) H := by
  obtain ⟨x, w, m, rfl, M, hx, g, hbd, hw, hm, hm9, k⟩ := h
  show t_Loop_total K (E1 Q) [some (.ref x), some (vS w), some (.int m), none, none, none, none, none] H
  unfold t_Loop_total
  walk_at "go"
  refine u_methLoop hx rfl ?_
  walk_at "go"
  refine u_history hx g hw fun p q r H1 n b e1 hn hb ho h1 h2 h3 => ?_
  walk_at "go"
  have hper : ∀ i, b ≤ i → cnt M w (i + (n - b)) = cnt M w i := fun i hi => by
    unfold cnt
    rw [show i + (n - b) = n + (i - b) by omega, orb_add ho, show b + (i - b) = i by omega]
  have hbc : ∀ i, (cnt M w i).natAbs ≤ 601 * 2 ^ 200 := cnt_bnd g hbd hw
  by_cases hc : m < (b : Nat)
  · refine s_T (decide_eq_true hc) ?_
    walk_at "go"
    rename_i l H2 nl e2 h4
    rw [cutV_to (by omega), take_int _ (by omega)] at h4
    refine s_sum (SqL.of h4) ?_
    exact k _ (e1.trans e2)
  · refine s_F (decide_eq_false hc) ?_
    walk_at "go"
    refine s_divmod ⟨by simp; omega, PyProof.noPylong_small (by simp; omega)⟩ fun l H2 nl e2 h4 => ?_
    have h3' := e2.get0 h3
    have eN : (((List.range n).map fun i => V.int (cnt M w i)).length : Int) - (b : Nat) = ((n - b : Nat) : Int) := by simp; omega
    have eM : m - (b : Nat) = ((m.toNat - b : Nat) : Int) := by omega
    rw [eN, eM] at h4
    have hmod : (m.toNat - b) % (n - b) < n - b := Nat.mod_lt _ (by omega)
    have hdm := Nat.mod_add_div (m.toNat - b) (n - b)
    generalize hr : (m.toNat - b) % (n - b) = rr at *
    generalize hq : (m.toNat - b) / (n - b) = qq at *
    have h4 : H2 l = some (.tup [.int (qq : Nat), .int (rr : Nat)]) := by rw [h4, ← hr, ← hq]; push_cast; rfl
    clear h1 h2 h3 eN eM
    walk_at "go"
    rename_i l2 H3 nl2 e3 h5
    rw [cutV_to (by omega), show ((b : Int) + (rr : Nat)).toNat = b + rr by omega, take_int _ (by omega)] at h5
    walk_at "go"
    refine s_sum (SqL.of h5) ?_
    walk_at "go"
    rename_i l3 H4 nl3 e4 h6
    rw [cutV_from (by omega), show ((b : Int)).toNat = b by omega, drop_int _ (by omega)] at h6
    walk_at "go"
    refine s_sum (SqL.of h6) ?_
    have hdiff : ((List.range (n - b)).map fun i => cnt M w (b + i)).sum = tot (cnt M w) (b + (n - b)) - tot (cnt M w) b := by
      rw [tot_add]
      show tot (fun i => cnt M w (b + i)) (n - b) = _
      omega
    have hqm : qq ≤ m.toNat := Nat.le_trans (by rw [← hq]; exact Nat.div_le_self _ _) (Nat.sub_le _ _)
    refine s_mulW (wide_mul (a := 200) (b := 300) ?_ ?_ (by decide) (by decide) (by decide)) ?_
    · have : ((qq : Nat) : Int).natAbs = qq := rfl
      rw [this]
      omega
    · have h8 := tot_bnd (f := fun i => cnt M w (b + i)) (fun i => hbc (b + i)) (n - b)
      have h9 : (n - b) * (601 * 2 ^ 200) ≤ 6 * (601 * 2 ^ 200) := Nat.mul_le_mul_right _ (by omega)
      have h10 : 6 * (601 * 2 ^ 200) < 2 ^ 300 := by decide +kernel
      exact Nat.lt_of_le_of_lt h8 (Nat.lt_of_le_of_lt h9 h10)
    walk_at "go"
    have hlap := tot_laps hper qq rr
    rw [show b + rr + qq * (n - b) = m.toNat by rw [Nat.mul_comm]; omega] at hlap
    rw [hdiff, show ((List.range (b + rr)).map (cnt M w)).sum = tot (cnt M w) (b + rr) from rfl, ← hlap]
    exact k _ ((e1.trans e2).trans (e3.trans e4))
theorem pure_Loop_rows (F : LoopK K) (h : sp_Loop_rows K vs H Q E) : t_Loop_rows K (E1 Q) (start ["self", "state", "sign"] vs) H := by
  obtain ⟨x, rfl, M, hx, g, k⟩ := h
  show t_Loop_rows K (E1 Q) [some (.ref x), none, none] H
  unfold t_Loop_rows
  walk_at "go"
  refine u_fOrder F hx fun o ho => ?_
  walk_at "go"
  have hs4 := g.ab.2.1
  have hs6 := g.st.2.1
  refine lc2_tups (m := M.ab) (by decide) ho (by omega) (by omega) (fun a c => rwV ⟨a, c, (M.tb a c).1, (M.tb a c).2⟩) (fun a H1 R e1 hR => ?_) (fun a c H1 C ha hc e1 kc => ?_) fun D H1 xs hD e1 h1 t1 => ?_
  · walk_at "go"
    refine u_fLetters F (hx.ex0 e1) ?_
    walk_at "go"
    exact hR
  · walk_at "go"
    rename_i q H2 nq e2 h2
    refine s_dget ?_
    walk_at "go"
    have hx2 := (hx.ex0 e1).ex0 e2
    refine u_fTable F hx2 fun tt kt h3 h4 => ?_
    walk_at "go"
    rename_i q2 H3 nq2 e3 h5
    refine s_getT (e3.get0 h3) (h4.ex0 e3) ha hc h5 fun p hp => ?_
    refine s_catA (SqT.of (e3.get0 h2)) hp (by simp) (by simp) (by simp) fun z H4 nz e4 h6 => ?_
    exact kc _ _ ((e2.trans e3).trans e4) (SqT.of h6)
  walk_at "go"
  refine s_tupOf (SqL.of h1) fun u H4 hu e4 h6 => ?_
  refine k _ _ (e1.trans e4) (TupsAt.mk (SqT.of h6) ?_)
  have : (rwsOf M).map rwV = M.st.flatMap fun a => M.ab.map fun c => rwV ⟨a, c, (M.tb a c).1, (M.tb a c).2⟩ := by
    unfold rwsOf
    rw [List.map_flatMap]
    congr 1
    funext a
    rw [List.map_map]
    rfl
  rw [this]
  exact t1.ex0 e4
theorem pure_Loop_turns (F : LoopK K) (h : sp_Loop_turns K vs H Q E) : t_Loop_turns K (E1 Q) (start ["self", "state"] vs) H := by
  obtain ⟨x, rfl, M, hx, g, k⟩ := h
  show t_Loop_turns K (E1 Q) [some (.ref x), none] H
  unfold t_Loop_turns
  walk_at "go"
  refine u_fOrder F hx fun o ho => ?_
  walk_at "go"
  have hs6 := g.st.2.1
  refine lc_tupsT ho (by omega) (fun a => tnV ⟨a, (M.en a).1, (M.en a).2⟩) (fun a H1 C ha e1 kc => ?_) fun D H1 xs hD e1 h1 t1 => ?_
  · walk_at "go"
    rename_i q H2 nq e2 h2
    refine s_dget ?_
    walk_at "go"
    refine u_fEnding F ((hx.ex0 e1).ex0 e2) fun te ke h3 h4 => ?_
    walk_at "go"
    refine s_getE h3 h4 ha fun p hp => ?_
    refine s_catA (SqT.of h2) hp (by simp) (by simp) (by simp) fun z H4 nz e4 h6 => ?_
    exact kc _ _ (e2.trans e4) (SqT.of h6)
  walk_at "go"
  refine s_tupOf (SqL.of h1) fun u H4 hu e4 h6 => ?_
  refine k _ _ (e1.trans e4) (TupsAt.mk (SqT.of h6) ?_)
  have : (tnsOf M).map tnV = M.st.map fun a => tnV ⟨a, (M.en a).1, (M.en a).2⟩ := by
    unfold tnsOf
    rw [List.map_map]
    rfl
  rw [this]
  exact t1.ex0 e4
theorem u_propLoop {sp : Sp} {dvs : List V} (h : LoopAt K H x M) (k : sp (.ref x :: dvs) H Q E) : PropG (He.ga K "Loop") sp dvs E (.ref x) H Q := by
  obtain ⟨dx, o, tt, te, tm, kt, ke, h1, _⟩ := h
  exact ⟨x, dx, _, rfl, h1, k⟩
theorem pure_Loop_row (F : LoopK K) (h : sp_Loop_row K vs H Q E) : t_Loop_row K (E1 Q) (start ["self"] vs) H := by
  obtain ⟨x, rfl, M, hx, g, k⟩ := h
  show t_Loop_row K (E1 Q) [some (.ref x)] H
  unfold t_Loop_row
  walk_at "go"
  refine u_fLetters F hx ?_
  walk_at "go"
  refine u_fOrder F hx fun o ho => ?_
  walk_at "go"
  refine u_propLoop hx ?_
  refine ⟨x, rfl, M, hx, g, fun r H1 e1 h1 => ?_⟩
  walk_at "go"
  refine u_propLoop (hx.ex0 e1) ?_
  refine ⟨x, rfl, M, hx.ex0 e1, g, fun t H2 e2 h2 => ?_⟩
  walk_at "go"
  refine u_fMarked F ((hx.ex0 e1).ex0 e2) fun tm htm => ?_
  walk_at "go"
  rename_i z H3 nz e3 h3
  exact k z H3 ((e1.trans e2).trans e3) ⟨o, r, t, tm, SqT.of h3, ((e1.trans e2).trans e3).sqT (by simp) ho, h1.ex0 (e2.trans e3), h2.ex0 e3, e3.sqT (by simp) htm⟩
end
end WB
namespace WB
open PySem PySem.Spec PyProof.Rows L2
theorem lit_z : ("z" : Str) = S [122] := by decide +kernel
theorem s_cutS {t : TS} {n b c : St → Hp → Prop} {rt : VK} {σ : St} {H : Hp} (P : St → Hp → Prop) (h1 : ∀ n' : St → Hp → Prop, (∀ σ G, P σ G → n' σ G) → t ⟨n', rt, b, c⟩ σ H) (h2 : ∀ σ G, P σ G → n σ G) : t ⟨n, rt, b, c⟩ σ H := h1 n h2
theorem Ex.dropN {H H1 H2 : Hp} {p : Addr} {m : List Addr} (hp : H p = none) (a : Ex m H H1) (b : Ex [p] H1 H2) : Ex m H H2 := fun x o hx h => b x o (by simpa using ne_of_none h hp) (a x o hx h)
/-! ### the law's model -/
structure GM (M : LM) : Prop where
  g : GoodM M
  b : BndM M
  f : M.st.filter (fun a => decide (a ∈ M.ok)) = M.ok
def MAt (K : PySem.W.Frag) (H : Hp) (q : Addr) (M : LM) : Prop := ∃ po ss es oo kt ke, H q = some (.lst [vS M.ab, .ref po, .ref ss, .ref es, .ref oo]) ∧ H po = some (.lst (M.st.map vS)) ∧ H ss = some (.dT kt) ∧ TabOk K H kt M ∧ H es = some (.dK ke) ∧ EndOk K H ke M ∧ H oo = some (.lst (M.ok.map vS))
def srtM (M : LM) : LM := { M with ab := sgn M.ab }
section
variable {K : PySem.W.Frag} {H H' : Hp} {Q : VK} {E : XK} {a q x : Addr} {M : LM}
theorem MAt.ex0 (e : Ex [] H H') (h : MAt K H q M) : MAt K H' q M := by
  obtain ⟨po, ss, es, oo, kt, ke, h1, h2, h3, h4, h5, h6, h7⟩ := h
  exact ⟨po, ss, es, oo, kt, ke, e.get0 h1, e.get0 h2, e.get0 h3, h4.ex0 e, e.get0 h5, h6.ex0 e, e.get0 h7⟩
theorem strs_ne {ls : List (List Nat)} {x y z : Int} (h : ls.map vS = [.int x, .int y, .int z]) : False := by
  match ls, h with
  | a :: l, h => cases (List.cons.inj h).1
theorem MAt.exP (hp : PoolAt H a) (e : Ex [a] H H') (h : MAt K H q M) : MAt K H' q M := by
  obtain ⟨po, ss, es, oo, kt, ke, h1, h2, h3, h4, h5, h6, h7⟩ := h
  have hq := hp
  obtain ⟨y1, y2, y3, hq⟩ := hq
  refine ⟨po, ss, es, oo, kt, ke, e.get ?_ h1, e.get ?_ h2, e.get ?_ h3, h4.exP hp e, e.get ?_ h5, h6.exP hp e, e.get ?_ h7⟩
  · simp only [List.mem_singleton]; intro w; rw [w, hq] at h1; cases h1
  · simp only [List.mem_singleton]; intro w; rw [w, hq] at h2; exact strs_ne (HO.lst.inj (Option.some.inj h2)).symm
  · simp only [List.mem_singleton]; intro w; rw [w, hq] at h3; cases h3
  · simp only [List.mem_singleton]; intro w; rw [w, hq] at h5; cases h5
  · simp only [List.mem_singleton]; intro w; rw [w, hq] at h7; exact strs_ne (HO.lst.inj (Option.some.inj h7)).symm
theorem goodS_sgn {s : List Nat} (h : goodS s) : goodS (sgn s) := goodS_perm h (sgn_perm s)
theorem good_srt (g : GoodM M) : GoodM (srtM M) := ⟨goodS_sgn g.ab, g.st, fun a ha c hc => g.tb a ha c ((sgn_perm M.ab).mem_iff.mp hc), g.en, g.ok⟩
theorem bnd_srt (g : BndM M) : BndM (srtM M) := ⟨fun a ha c hc => g.1 a ha c ((sgn_perm M.ab).mem_iff.mp hc), g.2⟩
theorem rnd_srt {c w : List Nat} : rnd (srtM M) c w = rnd M c w := rfl
theorem orb_srt {w : List Nat} : ∀ i, orb (srtM M) w i = orb M w i
  | 0 => rfl
  | i + 1 => by
    show (rnd (srtM M) (orb (srtM M) w i) w).1 = (rnd M (orb M w i) w).1
    rw [orb_srt i]
    rfl
theorem cnt_srt {w : List Nat} : cnt (srtM M) w = cnt M w := by
  funext i
  unfold cnt
  rw [orb_srt]
  rfl
theorem in_srt {w : List Nat} (h : inAb M w) : inAb (srtM M) w := ⟨h.1, h.2.1, fun c hc => (sgn_perm M.ab).mem_iff.mpr (h.2.2 c hc)⟩
theorem ans_srt {w : List Nat} {n : Nat} : ansV (srtM M) w n = ansV M w n := by
  unfold ansV
  rw [cnt_srt]
  apply List.map_congr_left
  intro i _
  rw [orb_srt]
  rfl
/-- only what the table says of its own states and signs counts -/
theorem LoopAt.same {M' : LM} (h1 : M'.ab = M.ab) (h2 : M'.st = M.st) (h3 : ∀ a ∈ M.st, ∀ c ∈ M.ab, M'.tb a c = M.tb a c) (h4 : ∀ a ∈ M.st, M'.en a = M.en a) (h5 : M'.ok = M.ok) (h : LoopAt K H x M) : LoopAt K H x M' := by
  obtain ⟨dx, o, tt, te, tm, kt, ke, z1, z2, z3, z4, z5, z6, z7⟩ := h
  refine ⟨dx, o, tt, te, tm, kt, ke, by rw [h1]; exact z1, by rw [h2]; exact z2, z3, fun a ha c hc => ?_, z5, fun a ha => ?_, by rw [h5]; exact z7⟩
  · rw [h2] at ha
    rw [h1] at hc
    rw [h3 a ha c hc]
    exact z4 a ha c hc
  · rw [h2] at ha
    rw [h4 a ha]
    exact z6 a ha
/-! ### rows of a model -/
theorem pairs_nodup {ab : List Nat} (ha : ab.Nodup) : ∀ {st : List (List Nat)}, st.Nodup → (st.flatMap fun a => ab.map fun c => (a, c)).Nodup
  | [], _ => by simp
  | a :: st, h => by
    obtain ⟨h1, h2⟩ := List.nodup_cons.mp h
    rw [List.flatMap_cons]
    refine List.nodup_append.mpr ⟨?_, pairs_nodup ha h2, ?_⟩
    · exact List.pairwise_map.mpr (ha.imp fun z w => z (Prod.mk.inj w).2)
    · intro p hp q hq e
      obtain ⟨c, _, rfl⟩ := List.mem_map.mp hp
      obtain ⟨b, hb, hq⟩ := List.mem_flatMap.mp hq
      obtain ⟨d, _, rfl⟩ := List.mem_map.mp hq
      cases e
      exact h1 hb
theorem rws_len (M : LM) : ∀ st : List (List Nat), (st.flatMap fun a => M.ab.map fun c => (⟨a, c, (M.tb a c).1, (M.tb a c).2⟩ : Rw)).length = M.ab.length * st.length
  | [] => by simp
  | a :: st => by rw [List.flatMap_cons, List.length_append, rws_len M st, List.length_map, List.length_cons, Nat.mul_succ, Nat.add_comm]
theorem mem_rws {r : Rw} (h : r ∈ rwsOf M) : r.a ∈ M.st ∧ r.c ∈ M.ab ∧ M.tb r.a r.c = (r.b, r.n) := by
  obtain ⟨a, ha, h⟩ := List.mem_flatMap.mp h
  obtain ⟨c, hc, rfl⟩ := List.mem_map.mp h
  exact ⟨ha, hc, rfl⟩
theorem rws_mem {b : List Nat} {c : Nat} (hb : b ∈ M.st) (hc : c ∈ M.ab) : (⟨b, c, (M.tb b c).1, (M.tb b c).2⟩ : Rw) ∈ rwsOf M := List.mem_flatMap.mpr ⟨b, hb, List.mem_map.mpr ⟨c, hc, rfl⟩⟩
theorem good_rws (g : GoodM M) : goodRws M.ab M.st (rwsOf M) := by
  refine ⟨fun r hr => ?_, ?_, rws_len M M.st⟩
  · obtain ⟨h1, h2, h3⟩ := mem_rws hr
    have := g.tb _ h1 _ h2
    rw [h3] at this
    exact ⟨h1, h2, this⟩
  · have := pairs_nodup g.ab.2.2 g.st.2.2.1
    have e : (rwsOf M).map (fun r => (r.a, r.c)) = M.st.flatMap fun a => M.ab.map fun c => (a, c) := by
      unfold rwsOf
      rw [List.map_flatMap]
      congr 1
      funext a
      rw [List.map_map]
      rfl
    rw [e]
    exact this
theorem good_tns (g : GoodM M) : goodTns M.st (tnsOf M) := by
  refine ⟨fun t ht => ?_, ?_⟩
  · obtain ⟨a, ha, rfl⟩ := List.mem_map.mp ht
    exact ⟨ha, g.en a ha⟩
  · unfold tnsOf
    rw [List.map_map]
    have : ((fun t : Tn => t.a) ∘ fun a => (⟨a, (M.en a).1, (M.en a).2⟩ : Tn)) = id := rfl
    rw [this, List.map_id]
    exact g.st.2.2.1
theorem tb_rws (b : List Nat) (hb : b ∈ M.st) (c : Nat) (hc : c ∈ M.ab) : tbOf (rwsOf M) b c = M.tb b c := by
  unfold tbOf
  cases h : (rwsOf M).find? fun r => decide (r.a = b ∧ r.c = c) with
  | none =>
    have := List.find?_eq_none.mp h _ (rws_mem hb hc)
    exact absurd (decide_eq_true ⟨rfl, rfl⟩) this
  | some r =>
    have h0 := List.find?_some h
    have h1 : r.a = b ∧ r.c = c := of_decide_eq_true h0
    have h2 := mem_rws (List.mem_of_find?_eq_some h)
    rw [h1.1, h1.2] at h2
    show (r.b, r.n) = _
    exact h2.2.2.symm
theorem en_tns (b : List Nat) (hb : b ∈ M.st) : enOf (tnsOf M) b = M.en b := by
  unfold enOf
  cases h : (tnsOf M).find? fun t => decide (t.a = b) with
  | none =>
    have := List.find?_eq_none.mp h ⟨b, (M.en b).1, (M.en b).2⟩ (List.mem_map.mpr ⟨b, hb, rfl⟩)
    exact absurd (decide_eq_true rfl) this
  | some t =>
    have h0 := List.find?_some h
    have h1 : t.a = b := of_decide_eq_true h0
    obtain ⟨a, ha, rfl⟩ := List.mem_map.mp (List.mem_of_find?_eq_some h)
    have h1 : a = b := h1
    subst h1
    rfl
/-- the loop made of a model's rows -/
theorem LoopAt.ofRows (m : GM M) (h : LoopAt K H x (mkLM (sgn M.ab) M.st (rwsOf (srtM M)) (tnsOf (srtM M)) M.ok)) : LoopAt K H x (srtM M) := by
  refine LoopAt.same (M := mkLM (sgn M.ab) M.st (rwsOf (srtM M)) (tnsOf (srtM M)) M.ok) ?_ rfl (fun a ha c hc => ?_) (fun a ha => ?_) ?_ h
  · exact (sgn_idem M.ab).symm
  · have hc : c ∈ sgn (sgn M.ab) := hc
    rw [sgn_idem] at hc
    exact (tb_rws (M := srtM M) a ha c hc).symm
  · exact (en_tns (M := srtM M) a ha).symm
  · exact m.f.symm
/-! ### promises -/
def sp_law_name (K : PySem.W.Frag) : Sp := fun vs H Q _ => ∃ (a f : Addr), vs = [.ref a, .ref f] ∧ ∃ ns : List (List Nat), f ≠ a ∧ H f = some (.lst (ns.map vS)) ∧ (∀ n ∈ ns, isName n) ∧ ns.length ≤ 6 ∧ PoolAt H a ∧ ∀ (n : List Nat) (H' : Hp), isName n → n ∉ ns → Ex [a] H H' → PoolAt H' a → Q (vS n) H'
def sp_law_names (K : PySem.W.Frag) : Sp := fun vs H Q _ => ∃ (a : Addr) (m : Int), vs = [.ref a, .int m] ∧ 1 ≤ m ∧ m ≤ 6 ∧ PoolAt H a ∧ ∀ (st : List (List Nat)) (p : Addr) (H' : Hp), goodSt st → (st.length : Int) = m → H p = none → Ex [a] H H' → PoolAt H' a → H' p = some (.lst (st.map vS)) → Q (.ref p) H'
def sp_law_amount (K : PySem.W.Frag) : Sp := fun vs H Q _ => ∃ (a : Addr) (g : Bool), vs = [.ref a, .bl g] ∧ PoolAt H a ∧ ∀ (r : Int) (H' : Hp), r.natAbs ≤ 2 ^ 200 → Ex [a] H H' → PoolAt H' a → Q (.int r) H'
def sp_law_model (K : PySem.W.Frag) : Sp := fun vs H Q _ => ∃ (a : Addr) (s : List Nat) (m : Int) (g : Bool), vs = [.ref a, vS s, .int m, .bl g] ∧ goodS s ∧ 1 ≤ m ∧ m ≤ 6 ∧ PoolAt H a ∧ ∀ (q : Addr) (M : LM) (H' : Hp), GM M → M.ab = s → (M.st.length : Int) ≤ m → H q = none → Ex [a] H H' → PoolAt H' a → MAt K H' q M → Q (.ref q) H'
def sp_law_line (K : PySem.W.Frag) : Sp := fun vs H Q _ => ∃ q : Addr, vs = [.ref q] ∧ ∃ M : LM, MAt K H q M ∧ GM M ∧ ∀ p H', Ex [] H H' → LRowAt K H' p (srtM M) → Q (.ref p) H'
def sp_law_loop (K : PySem.W.Frag) : Sp := fun vs H Q _ => ∃ q : Addr, vs = [.ref q] ∧ ∃ M : LM, MAt K H q M ∧ GM M ∧ ∀ x H', Ex [] H H' → LoopAt K H' x (srtM M) → Q (.ref x) H'
def sp_law_round (K : PySem.W.Frag) : Sp := fun vs H Q _ => ∃ (q : Addr) (b w : List Nat), vs = [.ref q, vS b, vS w] ∧ ∃ M : LM, MAt K H q M ∧ GM M ∧ b ∈ M.st ∧ w.length ≤ 10000 ∧ (∀ c ∈ w, c ∈ M.ab) ∧ ∀ p H', Ex [] H H' → H' p = some (.tup [vS (rnd M b w).1, .int (rnd M b w).2]) → Q (.ref p) H'
def RunAt (H : Hp) (M : LM) (w : List Nat) (p : Addr) (n : Nat) : Prop := ∃ s t, H p = some (.tup [.ref s, .ref t]) ∧ H s = some (.lst ((List.range (n + 1)).map fun i => vS (orb M w i))) ∧ H t = some (.lst ((List.range n).map fun i => .int (cnt M w i)))
def sp_law_run (K : PySem.W.Frag) : Sp := fun vs H Q _ => ∃ (q : Addr) (w : List Nat) (m : Int), vs = [.ref q, vS w, .int m] ∧ ∃ M : LM, MAt K H q M ∧ GM M ∧ inAb M w ∧ 0 ≤ m ∧ m ≤ 1000 ∧ ∀ p H', Ex [] H H' → RunAt H' M w p m.toNat → Q (.ref p) H'
def sp_law_answers (K : PySem.W.Frag) : Sp := fun vs H Q _ => ∃ (q : Addr) (w : List Nat) (m : Int), vs = [.ref q, vS w, .int m] ∧ ∃ M : LM, MAt K H q M ∧ GM M ∧ inAb M w ∧ 0 ≤ m ∧ m ≤ 1000 ∧ ∀ p H', Ex [] H H' → TupsAt K H' p (ansV M w m.toNat) → Q (.ref p) H'
theorem u_name {f : Addr} {ns : List (List Nat)} (hne : f ≠ a) (hf : H f = some (.lst (ns.map vS))) (hn : ∀ n ∈ ns, isName n) (hl : ns.length ≤ 6) (hp : PoolAt H a) (k : ∀ (n : List Nat) (H' : Hp), isName n → n ∉ ns → Ex [a] H H' → PoolAt H' a → Q (vS n) H') : sp_law_name K ([.ref a, .ref f] ++ []) H Q E := ⟨a, f, rfl, ns, hne, hf, hn, hl, hp, k⟩
theorem u_names {m : Int} (h1 : 1 ≤ m) (h6 : m ≤ 6) (hp : PoolAt H a) (k : ∀ (st : List (List Nat)) (p : Addr) (H' : Hp), goodSt st → (st.length : Int) = m → H p = none → Ex [a] H H' → PoolAt H' a → H' p = some (.lst (st.map vS)) → Q (.ref p) H') : sp_law_names K ([.ref a, .int m] ++ []) H Q E := ⟨a, m, rfl, h1, h6, hp, k⟩
theorem u_amount {g : Bool} (hp : PoolAt H a) (k : ∀ (r : Int) (H' : Hp), r.natAbs ≤ 2 ^ 200 → Ex [a] H H' → PoolAt H' a → Q (.int r) H') : sp_law_amount K ([.ref a, .bl g] ++ []) H Q E := ⟨a, g, rfl, hp, k⟩
theorem u_model {s : List Nat} {m : Int} {g : Bool} (hs : goodS s) (h1 : 1 ≤ m) (h6 : m ≤ 6) (hp : PoolAt H a) (k : ∀ (q : Addr) (M : LM) (H' : Hp), GM M → M.ab = s → (M.st.length : Int) ≤ m → H q = none → Ex [a] H H' → PoolAt H' a → MAt K H' q M → Q (.ref q) H') : sp_law_model K ([.ref a, vS s, .int m, .bl g] ++ []) H Q E := ⟨a, s, m, g, rfl, hs, h1, h6, hp, k⟩
theorem u_line (h : MAt K H q M) (m : GM M) (k : ∀ p H', Ex [] H H' → LRowAt K H' p (srtM M) → Q (.ref p) H') : sp_law_line K ([.ref q] ++ []) H Q E := ⟨q, rfl, M, h, m, k⟩
theorem u_loop (h : MAt K H q M) (m : GM M) (k : ∀ x H', Ex [] H H' → LoopAt K H' x (srtM M) → Q (.ref x) H') : sp_law_loop K ([.ref q] ++ []) H Q E := ⟨q, rfl, M, h, m, k⟩
theorem u_round {b w : List Nat} (h : MAt K H q M) (m : GM M) (hb : b ∈ M.st) (hl : w.length ≤ 10000) (hw : ∀ c ∈ w, c ∈ M.ab) (k : ∀ p H', Ex [] H H' → H' p = some (.tup [vS (rnd M b w).1, .int (rnd M b w).2]) → Q (.ref p) H') : sp_law_round K ([.ref q, vS b, vS w] ++ []) H Q E := ⟨q, b, w, rfl, M, h, m, hb, hl, hw, k⟩
theorem u_run {w : List Nat} {n : Int} (h : MAt K H q M) (m : GM M) (hw : inAb M w) (h0 : 0 ≤ n) (h1 : n ≤ 1000) (k : ∀ p s t H', Ex [] H H' → H' p = some (.tup [.ref s, .ref t]) → H' s = some (.lst ((List.range (n.toNat + 1)).map fun i => vS (orb M w i))) → H' t = some (.lst ((List.range n.toNat).map fun i => .int (cnt M w i))) → Q (.ref p) H') : sp_law_run K ([.ref q, vS w, .int n] ++ []) H Q E :=
  ⟨q, w, n, rfl, M, h, m, hw, h0, h1, fun p H' e ⟨s, t, z1, z2, z3⟩ => k p s t H' e z1 z2 z3⟩
theorem u_answers {w : List Nat} {n : Int} (h : MAt K H q M) (m : GM M) (hw : inAb M w) (h0 : 0 ≤ n) (h1 : n ≤ 1000) (k : ∀ p H', Ex [] H H' → TupsAt K H' p (ansV M w n.toNat) → Q (.ref p) H') : sp_law_answers K ([.ref q, vS w, .int n] ++ []) H Q E := ⟨q, w, n, rfl, M, h, m, hw, h0, h1, k⟩
/-! ### an entry of a table -/
theorem sqT_non {p : Addr} {o : HO} {xs : List V} {t : Addr} (hp : H p = some o) (h1 : ∀ ys, o ≠ .tup ys) (h2 : ∀ b ys, o ≠ .frz b (.tup ys)) (e : Ex [p] H H') (h : SqT K H t xs) : SqT K H' t xs := by
  rcases h with (h | ⟨b, h⟩) | h
  · exact e.sqT (by simp only [List.mem_singleton]; intro w; rw [w, hp] at h; exact h1 _ (Option.some.inj h)) (.inl (.inl h))
  · exact e.sqT (by simp only [List.mem_singleton]; intro w; rw [w, hp] at h; exact h2 _ _ (Option.some.inj h)) (.inl (.inr ⟨b, h⟩))
  · exact .inr h
end
end WB
namespace WB
open PySem PySem.Spec PyProof.Rows L2
theorem lit_122 : ("z" : Str) = S [122] := by decide +kernel
local macro_rules | `(tactic| walk_at "lit") => `(tactic| first | exact lit_122)
local macro_rules | `(tactic| walk_at "lit") => `(tactic| first | exact lit_abc | exact lit_empty)
local macro_rules | `(tactic| walk_at "nm") => `(tactic| focus first | exact List.not_mem_nil | (simp only [List.mem_singleton]; first | assumption | (exact Ne.symm (by assumption)) | (intro hz; subst hz; simp_all; done)))
local macro_rules | `(tactic| walk_at "hp") => `(tactic| first | assumption | (apply Ex.get0 (by assumption); walk_at "hp") | (apply Ex.get (by assumption); (walk_at "nm"); (walk_at "hp")))
local macro_rules | `(tactic| walk_at "sq") => `(tactic| first | assumption | (apply SqL.of; walk_at "hp") | (apply Ex.sqL (by assumption); (walk_at "nm"); (walk_at "sq")))
local macro_rules | `(tactic| walk_at "sqt") => `(tactic| first | assumption | (apply SqT.of; walk_at "hp") | (apply Ex.sqT (by assumption); (walk_at "nm"); (walk_at "sqt")))
local macro_rules | `(tactic| walk_at "sz") => `(tactic| focus ((with_reducible refine Nat.le_trans (m := 100000) ?_ (by decide)); first | omega | (simp; done) | (simp; omega)))
local macro_rules | `(tactic| walk_at "mul") => `(tactic| first | exact Or.inr ⟨by omega, by omega⟩ | exact Or.inl ⟨by omega, by omega⟩)
local macro_rules | `(tactic| walk_at "pool") => `(tactic| first | assumption | (apply PoolAt.ex (by assumption); (walk_at "nm"); (walk_at "pool")))
local macro_rules | `(tactic| walk_at "ring") => `(tactic| first | assumption | (apply RingAt.ex (by assumption); (walk_at "nm"); (walk_at "ring")))
local macro_rules | `(tactic| walk_at "st") => `(tactic| first
  | with_reducible refine s_seq ?_
  | with_reducible refine s_asg ?_
  | with_reducible refine s_gName ?_
  | with_reducible refine s_ret ?_
  | with_reducible refine s_ifS ?_
  | with_reducible refine s_next ?_
  | with_reducible refine s_op ?_
  | ((with_reducible apply s_var); exact rfl)
  | ((with_reducible apply s_cS); (walk_at "lit"))
  | with_reducible refine s_c ?_
  | with_reducible refine s_cb ?_
  | with_reducible refine s_cons ?_
  | with_reducible refine s_nil ?_
  | with_reducible refine s_un ?_
  | with_reducible refine s_call ?_
  | with_reducible refine s_test ?_
  | with_reducible refine s_tB ?_
  | with_reducible refine s_blQ ?_
  | with_reducible refine s_not ?_
  | with_reducible refine s_and ?_
  | with_reducible refine s_or ?_
  | with_reducible refine s_andV ?_
  | with_reducible refine s_orV ?_
  | with_reducible refine s_notV ?_
  | with_reducible refine s_ifE ?_
  | with_reducible refine s_chain ?_
  | ((with_reducible refine s_T ?_ ?_); (with_reducible exact rfl))
  | with_reducible refine s_nT ?_
  | with_reducible refine s_nF ?_
  | ((with_reducible refine s_F ?_ ?_); (with_reducible exact rfl))
  | ((with_reducible refine s_T ?_ ?_); assumption)
  | ((with_reducible refine s_F ?_ ?_); assumption)
  | ((with_reducible refine s_nB ?_ ?_); assumption)
  | ((with_reducible refine s_nA ?_ ?_); assumption)
  | ((with_reducible refine s_Td ?_ ?_); omega)
  | ((with_reducible refine s_Fd ?_ ?_); omega)
  | ((with_reducible refine s_nTd ?_ ?_); omega)
  | ((with_reducible refine s_nFd ?_ ?_); omega)
  | with_reducible refine s_sfld ?_
  | with_reducible refine s_addI ?_
  | with_reducible refine s_subI ?_
  | ((with_reducible refine s_mulI ?_ ?_); (walk_at "mul"))
  | ((with_reducible refine s_divI ?_ ?_); exact ⟨by omega, by omega⟩)
  | ((with_reducible refine s_modI ?_ ?_); omega)
  | ((with_reducible refine s_powI ?_ ?_); exact ⟨by decide, by decide, by decide⟩)
  | with_reducible refine s_ltI ?_
  | with_reducible refine s_leI ?_
  | with_reducible refine s_gtI ?_
  | with_reducible refine s_geI ?_
  | with_reducible refine s_negI ?_
  | with_reducible refine s_absI ?_
  | with_reducible refine s_intI ?_
  | with_reducible refine s_min2 ?_
  | with_reducible refine s_max2 ?_
  | with_reducible refine s_eqI ?_
  | with_reducible refine s_neI ?_
  | with_reducible refine s_eqS ?_
  | with_reducible refine s_neS ?_
  | with_reducible refine s_inSg ?_
  | with_reducible refine s_notInSg ?_
  | ((with_reducible refine s_addS ?_ ?_); (walk_at "sz"))
  | ((with_reducible refine s_lenS ?_ ?_); (walk_at "sz"))
  | ((with_reducible apply s_lenL); (walk_at "sq"))
  | ((with_reducible apply s_lenT); (walk_at "sqt"))
  | ((with_reducible apply s_ixL); (walk_at "sq"); exact rfl)
  | ((with_reducible apply s_ixT); (walk_at "sqt"); exact rfl)
  | with_reducible refine s_gSub ?_
  | ((with_reducible apply s_setL); (walk_at "hp"); (exact rfl); (intro _ _ _))
  | ((with_reducible refine s_alloc ?_ ?_); (walk_at "sz"); (intro _ _ _ _ _))
  | ((with_reducible refine s_divmod ?_ ?_); (exact ⟨by omega, PyProof.noPylong_small (by omega)⟩); (intro _ _ _ _ _))
  | ((with_reducible apply s_gTup); (walk_at "sqt"); (exact rfl))
  | ((with_reducible apply s_gLst); (walk_at "sq"); (exact rfl))
  | with_reducible refine s_gCons ?_
  | with_reducible refine s_gNil ?_
  | with_reducible refine s_lc ?_
  | ((with_reducible apply s_cat); (walk_at "hp"); (walk_at "hp"); (walk_at "sz"); (intro _ _ _ _ _))
  | ((with_reducible apply s_slL); (walk_at "sq"); (intro _ _ _ _ _))
  | with_reducible refine s_for ?_
  | with_reducible refine s_rng1 ?_
  | ((with_reducible refine s_rng1i ?_ ?_); (constructor <;> omega))
  | with_reducible refine s_rng2 ?_
  | ((with_reducible refine s_rng2i ?_ ?_); (refine ⟨?_, ?_, ?_, ?_⟩ <;> omega))
  | with_reducible refine s_iStr ?_
  | with_reducible refine s_iStrS ?_
  | with_reducible refine s_iList ?_
  | ((with_reducible apply s_iListA); (walk_at "sq"))
  | with_reducible refine s_iTup ?_
  | ((with_reducible apply s_iTupA); (walk_at "sqt"))
  | with_reducible refine s_sl ?_
  | with_reducible refine s_noPart ?_
  | with_reducible refine s_part ?_
  | with_reducible refine s_int1 ?_
  | ((with_reducible refine s_slS ?_ ?_); (walk_at "sz"))
  | with_reducible refine s_tup ?_
  | with_reducible refine s_lst ?_
  | with_reducible refine s_par ?_
  | with_reducible refine s_pair ?_
  | with_reducible refine s_M1 ?_
  | with_reducible refine s_isStr ?_
  | with_reducible refine s_revS ?_
  | ((with_reducible refine s_revS1 ?_ ?_); (walk_at "sz"))
  | with_reducible refine s_fldE ?_
  | with_reducible refine s_propE ?_
  | ((with_reducible refine u_draw ?_ ?_ ?_ ?_); omega; omega; (walk_at "pool"); (intro _ _ _ _ _ _))
  | ((with_reducible refine u_pool ?_); (intro _ _ _ _ _))
  | with_reducible refine u_is_integer ?_
  | with_reducible refine s_isiII ?_
  | with_reducible refine s_isiIB ?_
  | with_reducible refine s_isiSS ?_
  | ((with_reducible apply u_fldRing); assumption; (walk_at "ring"))
  | ((with_reducible apply u_textP); (walk_at "ring"))
  | ((with_reducible apply u_strRing); (walk_at "ring"))
  | ((with_reducible apply u_eqRing); (walk_at "ring"); (walk_at "ring"))
  | ((with_reducible apply u_isiRing); assumption; (walk_at "ring"))
  | ((with_reducible refine u_is_word ?_ ?_); omega; (intro _ _))
  | ((with_reducible refine u_turnings ?_ ?_); omega; (intro _ _ _ _ _))
  | with_reducible refine s_makeE ?_
  | with_reducible refine s_methE ?_)
local macro_rules | `(tactic| walk_at "go") => `(tactic| repeat (walk_at "st"))
local macro_rules | `(tactic| walk_at "exs") => `(tactic| first | exact Ex.rfl | assumption | (apply Ex.snoc (by assumption); walk_at "exs") | (apply Ex.snocW (by assumption); walk_at "exs"))
local macro_rules | `(tactic| walk_at "kind") => `(tactic| first | assumption | (apply KindAt.ex0 (by assumption); (walk_at "kind")) | (apply KindAt.exP (by assumption) (by assumption); (walk_at "kind")))
local macro_rules | `(tactic| walk_at "st") => `(tactic| first
  | with_reducible refine s_lenSet ?_
  | with_reducible refine s_drop ?_
  | with_reducible refine s_bm ?_
  | with_reducible refine s_notN ?_
  | with_reducible refine s_isN ?_
  | ((with_reducible apply s_tyL); (walk_at "hp"))
  | with_reducible refine s_enumT ?_
  | ((with_reducible apply s_enumTA); (walk_at "sqt"))
  | with_reducible refine s_lc2 ?_)
local macro_rules | `(tactic| walk_at "lit") => `(tactic| exact lit_MRK)
local macro_rules | `(tactic| walk_at "st") => `(tactic| first
  | with_reducible refine s_dcT ?_
  | with_reducible refine s_dc ?_)
local macro_rules | `(tactic| walk_at "lit") => `(tactic| exact lit_z)
/-- _law_name: 0 _law_pool_here 1 _law_found 2 _law_marks 3 _law_near 4 _law_turn 5 _law_old 6 _law_at 7 _law_spares 8 _law_mate 9 _law_mark -/
def t_law_name (K : PySem.W.Frag) : TS :=
  (tSeq (tAsg (tC (.str "abcdefghijklmnopqrstuvwxyz0123456789")) (gName 2))
  (tSeq (tAsg (tOp rIxS (tVar 2) (tCall (sp_law_draw K) [] E0 (tCons (tVar 0) (tCons (tC (.int 26)) tNil)))) (gName 3))
  (tSeq (tAsg (tOp rAddS (tVar 3) (tM1 (rJoin K) (tC (.str "")) (tLc (iRng1 (tCons (tCall (sp_law_draw K) [] E0 (tCons (tVar 0) (tCons (tC (.int 8)) tNil))) tNil)) (gName 4) tYes (tOp rIxS (tVar 2) (tCall (sp_law_draw K) [] E0 (tCons (tVar 0) (tCons (tC (.int 36)) tNil)))) [4]))) (gName 3))
  (tSeq (tIfS (tAnd (tTest (tOp (rNeD K) (tVar 1) (tLst tNil))) (tTest (tOp rGtI (tCall (sp_law_draw K) [] E0 (tCons (tVar 0) (tCons (tC (.int 3)) tNil))) (tC (.int 0))))) (tSeq (tAsg (tOp (rIxL K) (tVar 1) (tCall (sp_law_draw K) [] E0 (tCons (tVar 0) (tCons (tCB (rLenV K) (tCons (tVar 1) tNil)) tNil)))) (gName 5))
  (tSeq (tAsg (tOp rAddI (tC (.int 1)) (tCall (sp_law_draw K) [] E0 (tCons (tVar 0) (tCons (tCB (rLenV K) (tCons (tVar 5) tNil)) tNil)))) (gName 6))
  (tAsg (tSl rSlS (tOp rAddS (tOp rAddS (tSl rSlS (tVar 5) tNoPart (tPart (tVar 6))) (tOp rIxS (tVar 2) (tCall (sp_law_draw K) [] E0 (tCons (tVar 0) (tCons (tC (.int 36)) tNil))))) (tSl rSlS (tVar 5) (tPart (tOp rAddI (tVar 6) (tCall (sp_law_draw K) [] E0 (tCons (tVar 0) (tCons (tC (.int 2)) tNil))))) tNoPart)) tNoPart (tPart (tC (.int 8)))) (gName 3)))) tNext)
  (tSeq (tAsg (tLc (iList K (tOp rCat (tLst (tCons (tVar 3) tNil)) (tLc (iStr (tSl rSlS (tVar 2) tNoPart (tPart (tC (.int 9))))) (gName 9) tYes (tOp rAddS (tC (.str "z")) (tVar 9)) [9]))) (gName 8) (tTest (tOp (rIn K true) (tVar 8) (tVar 1))) (tVar 8) [8]) (gName 7))
  (tRet (tOp (rIxL K) (tVar 7) (tC (.int 0)))))))))
/-- _law_names: 0 _law_pool_here 1 _law_many 2 _law_found 3 _law_turn -/
def t_law_names (K : PySem.W.Frag) : TS :=
  (tSeq (tAsg (tLst tNil) (gName 2))
  (tSeq (tFor (iRng1 (tCons (tVar 1) tNil)) (gName 3) (tDrop (tBM K "list" rAppend (tVar 2) (tCons (tCall (sp_law_name K) [] E0 (tCons (tVar 0) (tCons (tVar 2) tNil))) tNil))))
  (tRet (tVar 2))))
/-- _law_amount: 0 _law_pool_here 1 _law_great 2 _law_way -/
def t_law_amount (K : PySem.W.Frag) : TS :=
  (tSeq (tAsg (tCall (sp_law_draw K) [] E0 (tCons (tVar 0) (tCons (tC (.int 12)) tNil))) (gName 2))
  (tSeq (tIfS (tTest (tOp rLtI (tVar 2) (tC (.int 9)))) (tRet (tOp rSubI (tCall (sp_law_draw K) [] E0 (tCons (tVar 0) (tCons (tC (.int 7)) tNil))) (tC (.int 3)))) tNext)
  (tSeq (tIfS (tOr (tTest (tOp rLtI (tVar 2) (tC (.int 11)))) (tNot (tB (tVar 1)))) (tRet (tOp rSubI (tCall (sp_law_draw K) [] E0 (tCons (tVar 0) (tCons (tC (.int 2001)) tNil))) (tC (.int 1000)))) tNext)
  (tRet (tOp (rIxL K) (tLst (tCons (tOp rPowI (tC (.int 10)) (tC (.int 20))) (tCons (tOp rSubI (tUn rNegI (tOp rPowI (tC (.int 10)) (tC (.int 20)))) (tC (.int 1))) (tCons (tOp rAddI (tOp rPowI (tC (.int 10)) (tC (.int 30))) (tC (.int 7))) (tCons (tUn rNegI (tOp rPowI (tC (.int 10)) (tC (.int 30)))) tNil))))) (tCall (sp_law_draw K) [] E0 (tCons (tVar 0) (tCons (tC (.int 4)) tNil))))))))
section
variable {K : PySem.W.Frag} {vs : List V} {H H' : Hp} {Q : VK} {E : XK} {x : Addr} {M : LM}
theorem let_in {r : Int} (h0 : 0 ≤ r) (h1 : r < 26) : ∃ c, MRK[r.toNat]? = some c ∧ c ∈ LET := by
  have hl : r.toNat < LET.length := by show r.toNat < 26; omega
  refine ⟨LET[r.toNat], ?_, List.getElem_mem hl⟩
  unfold MRK
  rw [List.getElem?_append_left hl, List.getElem?_eq_getElem hl]
theorem mrk_in {r : Int} (h0 : 0 ≤ r) (h1 : r < 36) : ∃ c, MRK[r.toNat]? = some c ∧ c ∈ MRK := by
  have hl : r.toNat < MRK.length := by show r.toNat < 36; omega
  exact ⟨MRK[r.toNat], List.getElem?_eq_getElem hl, List.getElem_mem hl⟩
theorem let_mrk {c : Nat} (h : c ∈ LET) : c ∈ MRK := List.mem_append_left _ h
theorem flat1' (ls : List Nat) : (ls.map fun c => [c]).flatten = ls := by induction ls with
  | nil => rfl
  | cons a l ih => simp [ih]
theorem pure_law_name (h : sp_law_name K vs H Q E) : t_law_name K (E1 Q) (start ["_law_pool_here", "_law_found", "_law_marks", "_law_near", "_law_turn", "_law_old", "_law_at", "_law_spares", "_law_mate", "_law_mark"] vs) H := by
  obtain ⟨a, f, rfl, ns, hfa, hf, hns, hnl, hp, k⟩ := h
  show t_law_name K (E1 Q) [some (.ref a), some (.ref f), none, none, none, none, none, none, none, none] H
  unfold t_law_name
  walk_at "go"
  rename_i r H1 r0 r1 e1 p1
  obtain ⟨c, hc, hcl⟩ := let_in r0 r1
  refine s_ixS (by decide) (atI_of r0 hc) ?_
  walk_at "go"
  rename_i r2 H2 r20 r21 e2 p2
  refine lc_run walk_range (by omega) [a] (fun H2 => PoolAt H2 a) (fun i acc _ => ∃ ls : List Nat, acc = ls.map (fun c => vS [c]) ∧ ls.length = i ∧ ∀ c ∈ ls, c ∈ MRK) (fun b hb => by rw [List.mem_singleton.mp hb]; exact p2.there) p2 ⟨[], rfl, rfl, by simp⟩
    (fun H2 D o n h => h.upd n) (fun _ _ _ _ _ _ h => h) (fun _ _ => trivial) ?_ ?_
  · rintro i acc x H3 H4 C1 C0 hi e3 p3 ⟨ls, rfl, hls, hin⟩ ⟨rfl, rfl⟩ k1 k0
    refine ⟨wipe1 _ _ _, ?_⟩
    refine s_yes ?_
    walk_at "go"
    rename_i r3 H5 r30 r31 e5 p5
    obtain ⟨d, hd, hdm⟩ := mrk_in r30 r31
    refine s_ixS (by decide) (atI_of r30 hd) ?_
    refine k1 _ _ e5 p5 ⟨ls ++ [d], by rw [List.map_append]; rfl, by rw [List.length_append, hls]; rfl, fun x hx => ?_⟩
    rcases List.mem_append.mp hx with hx | hx
    · exact hin x hx
    · rw [List.mem_singleton.mp hx]; exact hdm
  rintro D H3 ys hD e3 p3 hd hyl ⟨ls, rfl, hls, hin⟩
  have hfl := flat1' ls
  refine s_join0 (ls := ls.map fun c => [c]) (by rw [List.map_map]; exact SqL.of hd) (by rw [hfl]; omega) ?_
  rw [hfl]
  refine s_addS (Nat.le_trans (show _ ≤ 100 by simp; omega) (by decide)) ?_
  refine s_gName ?_
  refine s_seq ?_
  have e03 : Ex [a] H H3 := (e1.trans e2).trans e3
  have hn0 : isName ([c] ++ ls) := ⟨by simp, by simp; omega, ⟨c, ls, rfl, hcl⟩, fun x hx => by
    rcases List.mem_append.mp hx with hx | hx
    · rw [List.mem_singleton.mp hx]; exact let_mrk hcl
    · exact hin x hx⟩
  revert hn0
  generalize [c] ++ ls = n0
  intro hn0
  clear e1 e2 e3 hd hD hyl hls hin hfl hc hcl p1 p2 r0 r1 r20 r21
  refine s_cutS (fun σ G => ∃ n x4 x5 x6, σ = [some (.ref a), some (.ref f), some (vS MRK), some (vS n), x4, x5, x6, none, none, none] ∧ isName n ∧ Ex [a] H G ∧ PoolAt G a) ?_ ?_
  · intro n' kn
    walk_at "go"
    rename_i q H4 nq e4 h4
    have hf4 : H4 f = some (.lst (ns.map vS)) := e4.get0 (e03.get (by simpa using hfa) hf)
    refine s_neLS (ls := ns) (ms := []) (SqL.of hf4) (SqL.of h4) (fun l hl => name_plain (hns l hl)) (by simp) ?_
    walk_at "go"
    have e04 : Ex [a] H H4 := e03.trans e4.wide
    have p4 : PoolAt H4 a := p3.ex e4 (by simp)
    clear e4 nq h4 e03 p3
    by_cases hn : ns = []
    · refine s_F (by simp [hn]) ?_
      walk_at "go"
      exact kn _ _ ⟨n0, _, _, _, rfl, hn0, e04, p4⟩
    refine s_T (by simp [hn]) ?_
    walk_at "go"
    rename_i r5 H5 r50 r51 e5 p5
    by_cases hr5 : 0 < r5
    rotate_left
    · refine s_F (decide_eq_false hr5) ?_
      walk_at "go"
      exact kn _ _ ⟨n0, _, _, _, rfl, hn0, e04.trans e5, p5⟩
    refine s_T (decide_eq_true hr5) ?_
    have hlen : 0 < (ns.map vS).length ∧ (ns.map vS).length ≤ 6 := by rw [List.length_map]; exact ⟨List.length_pos_iff.mpr hn, hnl⟩
    have hf5 : H5 f = some (.lst (ns.map vS)) := e5.get (by simpa using hfa) hf4
    walk_at "go"
    rename_i r6 H6 r60 r61 e6 p6
    rw [List.length_map] at r61
    have hf6 : H6 f = some (.lst (ns.map vS)) := e6.get (by simpa using hfa) hf5
    obtain ⟨old, hold⟩ : ∃ c, ns[r6.toNat]? = some c := ⟨_, List.getElem?_eq_getElem (by omega)⟩
    obtain ⟨o1, o2, ⟨o, os, ho, hoL⟩, o3⟩ := hns old (List.mem_of_getElem? hold)
    refine s_ixL (xs := ns.map vS) (v := vS old) (SqL.of hf6) (atI_of r60 (by rw [List.getElem?_map, hold]; rfl)) ?_
    walk_at "go"
    rename_i r7 H7 r70 r71 e7 p7 r8 H8 r80 r81 e8 p8
    obtain ⟨d, hd, hdm⟩ := mrk_in r80 r81
    refine s_ixS (by decide) (atI_of r80 hd) ?_
    rw [cut_to (by omega)]
    have ht1 : (old.take (1 + r7).toNat).length ≤ 8 := by rw [List.length_take]; omega
    refine s_addS (Nat.le_trans (show _ ≤ 100 by simp; omega) (by decide)) ?_
    walk_at "go"
    rename_i r9 H9 r90 r91 e9 p9
    rw [cut_from (by omega)]
    have ht2 : (old.drop (1 + r7 + r9).toNat).length ≤ 8 := by rw [List.length_drop]; omega
    refine s_addS (Nat.le_trans (show _ ≤ 100 by simp; omega) (by decide)) ?_
    refine s_noPart ?_
    walk_at "go"
    rw [cut_to (by omega)]
    refine kn _ _ ⟨_, _, _, _, rfl, ?_, (((e04.trans e5).trans (e6.trans e7)).trans e8).trans e9, p9⟩
    obtain ⟨t, ht⟩ : ∃ t, (1 + r7).toNat = t + 1 := ⟨(1 + r7).toNat - 1, by omega⟩
    refine ⟨?_, ?_, ⟨o, ?_, ?_, hoL⟩, ?_⟩
    · rw [List.length_take]
      simp only [List.length_append, List.length_take, List.length_singleton]
      omega
    · rw [List.length_take]
      show min 8 _ ≤ 8
      omega
    · exact ((os.take t ++ [d]) ++ old.drop (1 + r7 + r9).toNat).take 7
    · rw [ht]
      conv => lhs; rw [ho]
      show List.take (7 + 1) ((o :: os).take (t + 1) ++ [d] ++ _) = _
      rw [List.take_succ_cons, List.cons_append, List.cons_append, List.take_succ_cons]
      rw [ho]
    · intro x hx
      have hx := List.mem_of_mem_take hx
      rcases List.mem_append.mp hx with hx | hx
      · rcases List.mem_append.mp hx with hx | hx
        · exact o3 x (List.mem_of_mem_take hx)
        · rw [List.mem_singleton.mp hx]; exact hdm
      · exact o3 x (List.mem_of_mem_drop hx)
  · rintro σ G ⟨n, x4, x5, x6, rfl, hn, e4, p4⟩
    walk_at "go"
    rename_i q H5 nq e5 h5
    refine s_slS (Nat.le_trans (show MRK.length ≤ 100 by decide) (by decide)) ?_
    rw [show cut MRK none (some 9) = LET.take 9 by rw [cut_to (by decide)]; rfl]
    walk_at "go"
    refine lc_mapS (by decide) (fun _ => true) (fun c => vS [122, c]) (fun d H6 C1 C0 hd e6 k1 k0 => ?_) (fun D H6 hD e6 h6 => ?_)
    · refine s_yes ?_
      walk_at "go"
      exact k1 _ Ex.rfl rfl
    refine s_cat (e6.get0 h5) h6 (Nat.le_trans (m := 100) (by simp) (by decide)) fun u H7 nu e7 h7 => ?_
    have hls : ([vS n] ++ ((LET.take 9).filter fun _ => true).map fun c => vS [122, c]) = (n :: (LET.take 9).map fun c => [122, c]).map vS := rfl
    rw [hls] at h7
    have hf7 : H7 f = some (.lst (ns.map vS)) := e7.get0 (e6.get0 (e5.get0 (e4.get (by simpa using hfa) hf)))
    walk_at "go"
    refine lc_fm8 (ls := n :: (LET.take 9).map fun c => [122, c]) (SqL.of h7) (by simp) (fun l => !decide (l ∈ ns)) vS (fun l H8 C1 C0 hl e8 k1 k0 => ?_) (fun D2 H8 hD2 e8 h8 => ?_)
    · walk_at "go"
      refine s_notInL (SqL.of (e8.get0 hf7)) ?_
      walk_at "go"
      refine s_2 (fun hb => ?_) (fun hb => ?_)
      · walk_at "go"
        exact k1 _ Ex.rfl hb
      · exact k0 _ Ex.rfl hb
    have e08 : Ex [a] H H8 := e4.trans (((e5.trans e6).trans (e7.trans e8)).wide)
    have p08 : PoolAt H8 a := p4.ex ((e5.trans e6).trans (e7.trans e8)) (by simp)
    have hmem : ∀ l ∈ (n :: (LET.take 9).map fun c => [122, c]), isName l := fun l hl => by
      rcases List.mem_cons.mp hl with rfl | hl
      · exact hn
      · obtain ⟨c, hc, rfl⟩ := List.mem_map.mp hl
        exact ⟨by simp, by simp, ⟨122, [c], rfl, by decide⟩, fun x hx => by
          rcases List.mem_cons.mp hx with rfl | hx
          · decide
          · rw [List.mem_singleton.mp hx]; exact let_mrk (List.mem_of_mem_take hc)⟩
    obtain ⟨l0, rest, hfl⟩ : ∃ l0 rest, (n :: (LET.take 9).map fun c => [122, c]).filter (fun l => !decide (l ∈ ns)) = l0 :: rest := by
      refine List.exists_cons_of_ne_nil fun hnil => ?_
      have hall : ∀ l ∈ (LET.take 9).map (fun c => [122, c]), l ∈ ns := fun l hl => by
        have := List.filter_eq_nil_iff.mp hnil l (List.mem_cons_of_mem _ hl)
        simpa using this
      have := nodup_le _ ns (by decide : ((LET.take 9).map (fun c => [122, c])).Nodup) hall
      have h9 : ((LET.take 9).map (fun c => [122, c])).length = 9 := rfl
      omega
    rw [hfl] at h8
    have hm0 : l0 ∈ (n :: (LET.take 9).map fun c => [122, c]).filter (fun l => !decide (l ∈ ns)) := by rw [hfl]; exact List.mem_cons_self
    obtain ⟨hm1, hm2⟩ := List.mem_filter.mp hm0
    walk_at "go"
    refine s_ixL (v := vS l0) (SqL.of h8) (atI_of (by decide) rfl) ?_
    exact k l0 _ (hmem l0 hm1) (by simpa using hm2) e08 p08
theorem pure_law_names (h : sp_law_names K vs H Q E) : t_law_names K (E1 Q) (start ["_law_pool_here", "_law_many", "_law_found", "_law_turn"] vs) H := by
  obtain ⟨a, m, rfl, m1, m6, hp, k⟩ := h
  show t_law_names K (E1 Q) [some (.ref a), some (.int m), none, none] H
  unfold t_law_names
  walk_at "go"
  rename_i q H1 nq e1 h1
  have hqa : q ≠ a := fun z => hp.there (z ▸ nq)
  refine for_run walk_range (fun i σ G => ∃ (ns : List (List Nat)) (x3 : Option V), σ = [some (.ref a), some (.int m), some (.ref q), x3] ∧ ns.length = i ∧ ns.Nodup ∧ (∀ n ∈ ns, isName n) ∧ Ex [a] H G ∧ PoolAt G a ∧ G q = some (.lst (ns.map vS))) ⟨[], none, rfl, rfl, by simp, by simp, e1.wide, hp.ex e1 (by simp), h1⟩ (fun _ _ _ _ _ => trivial) ?_ ?_
  · rintro i x σ G G2 hi ⟨ns, x3, rfl, hl, hd, hn, e2, p2, h2⟩ ⟨rfl, rfl⟩
    walk_at "go"
    refine u_name hqa h2 hn (by omega) p2 fun n G3 hn3 hni e3 p3 => ?_
    have h3 := e3.get (by simpa using hqa) h2
    walk_at "go"
    refine s_append h3 (Nat.lt_of_le_of_lt (show _ ≤ 100 by simp; omega) (by decide)) fun G4 e4 h4 => ?_
    refine ⟨ns ++ [n], _, rfl, by simp [hl], ?_, fun l hl => ?_, Ex.dropN nq (e2.trans e3) e4, p3.ex e4 (by simpa using Ne.symm hqa), by rw [h4, List.map_append]; rfl⟩
    · exact List.nodup_append.mpr ⟨hd, by simp, fun x hx y hy z => hni (by rw [List.mem_singleton.mp hy] at z; rw [← z]; exact hx)⟩
    · rcases List.mem_append.mp hl with hl | hl
      · exact hn l hl
      · rw [List.mem_singleton.mp hl]; exact hn3
  · rintro σ G ⟨ns, x3, rfl, hl, hd, hn, e2, p2, h2⟩
    walk_at "go"
    exact k ns q _ ⟨by omega, by omega, hd, hn⟩ (by omega) nq e2 p2 h2
theorem pure_law_amount (h : sp_law_amount K vs H Q E) : t_law_amount K (E1 Q) (start ["_law_pool_here", "_law_great", "_law_way"] vs) H := by
  obtain ⟨a, g, rfl, hp, k⟩ := h
  show t_law_amount K (E1 Q) [some (.ref a), some (.bl g), none] H
  unfold t_law_amount
  walk_at "go"
  rename_i r H1 r0 r1 e1 p1
  have hB : 2000 ≤ 2 ^ 200 := by decide
  by_cases h1 : r < 9
  · refine s_T (decide_eq_true h1) ?_
    walk_at "go"
    rename_i r2 H2 r20 r21 e2 p2
    exact k _ _ (by omega) (e1.trans e2) p2
  refine s_F (decide_eq_false h1) ?_
  walk_at "go"
  have small : ∀ G, Ex [a] H1 G → PoolAt G a → (tRet (tOp rSubI (tCall (sp_law_draw K) [] E0 (tCons (tVar 0) (tCons (tC (.int 2001)) tNil))) (tC (.int 1000)))) (E1 Q) [some (.ref a), some (.bl g), some (.int r)] G := by
    intro G eG pG
    show tRet _ ⟨_, _, _, _⟩ _ _
    walk_at "go"
    rename_i r2 H2 r20 r21 e2 p2
    exact k _ _ (by omega) (e1.trans (eG.trans e2)) p2
  by_cases h2 : r < 11
  · refine s_T (decide_eq_true h2) ?_
    walk_at "go"
    rename_i r2 H2 r20 r21 e2 p2
    exact k _ _ (by omega) (e1.trans e2) p2
  refine s_F (decide_eq_false h2) ?_
  walk_at "go"
  refine s_2 (fun hg => ?_) (fun hg => ?_)
  · walk_at "go"
    rename_i r2 H2 r20 r21 e2 p2
    exact k _ _ (by omega) (e1.trans e2) p2
  walk_at "go"
  rename_i q H2 nq e2 h3 r3 H3 r30 r31 e3 p3
  have hqa : q ≠ a := fun z => p1.there (z ▸ nq)
  have h4 := e3.get (by simpa using hqa) h3
  have e03 : Ex [a] H H3 := (e1.trans e2.wide).trans e3
  have hr : r3 = 0 ∨ r3 = 1 ∨ r3 = 2 ∨ r3 = 3 := by omega
  rcases hr with rfl | rfl | rfl | rfl
  · exact s_ixL (SqL.of h4) (atI_of (by decide) rfl) (k _ _ (by decide) e03 p3)
  · exact s_ixL (SqL.of h4) (atI_of (by decide) rfl) (k _ _ (by decide) e03 p3)
  · exact s_ixL (SqL.of h4) (atI_of (by decide) rfl) (k _ _ (by decide) e03 p3)
  · exact s_ixL (SqL.of h4) (atI_of (by decide) rfl) (k _ _ (by decide) e03 p3)
end
end WB
namespace WB
open PySem PySem.Spec PyProof.Rows L2
local macro_rules | `(tactic| walk_at "lit") => `(tactic| first | exact lit_abc | exact lit_empty)
local macro_rules | `(tactic| walk_at "nm") => `(tactic| focus first | exact List.not_mem_nil | (simp only [List.mem_singleton]; first | assumption | (exact Ne.symm (by assumption)) | (intro hz; subst hz; simp_all; done)))
local macro_rules | `(tactic| walk_at "hp") => `(tactic| first | assumption | (apply Ex.get0 (by assumption); walk_at "hp") | (apply Ex.get (by assumption); (walk_at "nm"); (walk_at "hp")))
local macro_rules | `(tactic| walk_at "sq") => `(tactic| first | assumption | (apply SqL.of; walk_at "hp") | (apply Ex.sqL (by assumption); (walk_at "nm"); (walk_at "sq")))
local macro_rules | `(tactic| walk_at "sqt") => `(tactic| first | assumption | (apply SqT.of; walk_at "hp") | (apply Ex.sqT (by assumption); (walk_at "nm"); (walk_at "sqt")))
local macro_rules | `(tactic| walk_at "sz") => `(tactic| focus ((with_reducible refine Nat.le_trans (m := 100000) ?_ (by decide)); first | omega | (simp; done) | (simp; omega)))
local macro_rules | `(tactic| walk_at "mul") => `(tactic| first | exact Or.inr ⟨by omega, by omega⟩ | exact Or.inl ⟨by omega, by omega⟩)
local macro_rules | `(tactic| walk_at "pool") => `(tactic| first | assumption | (apply PoolAt.ex (by assumption); (walk_at "nm"); (walk_at "pool")))
local macro_rules | `(tactic| walk_at "ring") => `(tactic| first | assumption | (apply RingAt.ex (by assumption); (walk_at "nm"); (walk_at "ring")))
local macro_rules | `(tactic| walk_at "st") => `(tactic| first
  | with_reducible refine s_seq ?_
  | with_reducible refine s_asg ?_
  | with_reducible refine s_gName ?_
  | with_reducible refine s_ret ?_
  | with_reducible refine s_ifS ?_
  | with_reducible refine s_next ?_
  | with_reducible refine s_op ?_
  | ((with_reducible apply s_var); exact rfl)
  | ((with_reducible apply s_cS); (walk_at "lit"))
  | with_reducible refine s_c ?_
  | with_reducible refine s_cb ?_
  | with_reducible refine s_cons ?_
  | with_reducible refine s_nil ?_
  | with_reducible refine s_un ?_
  | with_reducible refine s_call ?_
  | with_reducible refine s_test ?_
  | with_reducible refine s_tB ?_
  | with_reducible refine s_blQ ?_
  | with_reducible refine s_not ?_
  | with_reducible refine s_and ?_
  | with_reducible refine s_or ?_
  | with_reducible refine s_andV ?_
  | with_reducible refine s_orV ?_
  | with_reducible refine s_notV ?_
  | with_reducible refine s_ifE ?_
  | with_reducible refine s_chain ?_
  | ((with_reducible refine s_T ?_ ?_); (with_reducible exact rfl))
  | with_reducible refine s_nT ?_
  | with_reducible refine s_nF ?_
  | ((with_reducible refine s_F ?_ ?_); (with_reducible exact rfl))
  | ((with_reducible refine s_T ?_ ?_); assumption)
  | ((with_reducible refine s_F ?_ ?_); assumption)
  | ((with_reducible refine s_nB ?_ ?_); assumption)
  | ((with_reducible refine s_nA ?_ ?_); assumption)
  | ((with_reducible refine s_Td ?_ ?_); omega)
  | ((with_reducible refine s_Fd ?_ ?_); omega)
  | ((with_reducible refine s_nTd ?_ ?_); omega)
  | ((with_reducible refine s_nFd ?_ ?_); omega)
  | with_reducible refine s_sfld ?_
  | with_reducible refine s_addI ?_
  | with_reducible refine s_subI ?_
  | ((with_reducible refine s_mulI ?_ ?_); (walk_at "mul"))
  | ((with_reducible refine s_divI ?_ ?_); exact ⟨by omega, by omega⟩)
  | ((with_reducible refine s_modI ?_ ?_); omega)
  | ((with_reducible refine s_powI ?_ ?_); exact ⟨by decide, by decide, by decide⟩)
  | with_reducible refine s_ltI ?_
  | with_reducible refine s_leI ?_
  | with_reducible refine s_gtI ?_
  | with_reducible refine s_geI ?_
  | with_reducible refine s_negI ?_
  | with_reducible refine s_absI ?_
  | with_reducible refine s_intI ?_
  | with_reducible refine s_min2 ?_
  | with_reducible refine s_max2 ?_
  | with_reducible refine s_eqI ?_
  | with_reducible refine s_neI ?_
  | with_reducible refine s_eqS ?_
  | with_reducible refine s_neS ?_
  | with_reducible refine s_inSg ?_
  | with_reducible refine s_notInSg ?_
  | ((with_reducible refine s_addS ?_ ?_); (walk_at "sz"))
  | ((with_reducible refine s_lenS ?_ ?_); (walk_at "sz"))
  | ((with_reducible apply s_lenL); (walk_at "sq"))
  | ((with_reducible apply s_lenT); (walk_at "sqt"))
  | ((with_reducible apply s_ixL); (walk_at "sq"); exact rfl)
  | ((with_reducible apply s_ixT); (walk_at "sqt"); exact rfl)
  | with_reducible refine s_gSub ?_
  | ((with_reducible apply s_setL); (walk_at "hp"); (exact rfl); (intro _ _ _))
  | ((with_reducible refine s_alloc ?_ ?_); (walk_at "sz"); (intro _ _ _ _ _))
  | ((with_reducible refine s_divmod ?_ ?_); (exact ⟨by omega, PyProof.noPylong_small (by omega)⟩); (intro _ _ _ _ _))
  | ((with_reducible apply s_gTup); (walk_at "sqt"); (exact rfl))
  | ((with_reducible apply s_gLst); (walk_at "sq"); (exact rfl))
  | with_reducible refine s_gCons ?_
  | with_reducible refine s_gNil ?_
  | with_reducible refine s_lc ?_
  | ((with_reducible apply s_cat); (walk_at "hp"); (walk_at "hp"); (walk_at "sz"); (intro _ _ _ _ _))
  | ((with_reducible apply s_slL); (walk_at "sq"); (intro _ _ _ _ _))
  | with_reducible refine s_for ?_
  | with_reducible refine s_rng1 ?_
  | ((with_reducible refine s_rng1i ?_ ?_); (constructor <;> omega))
  | with_reducible refine s_rng2 ?_
  | ((with_reducible refine s_rng2i ?_ ?_); (refine ⟨?_, ?_, ?_, ?_⟩ <;> omega))
  | with_reducible refine s_iStr ?_
  | with_reducible refine s_iStrS ?_
  | with_reducible refine s_iList ?_
  | ((with_reducible apply s_iListA); (walk_at "sq"))
  | with_reducible refine s_iTup ?_
  | ((with_reducible apply s_iTupA); (walk_at "sqt"))
  | with_reducible refine s_sl ?_
  | with_reducible refine s_noPart ?_
  | with_reducible refine s_part ?_
  | with_reducible refine s_int1 ?_
  | ((with_reducible refine s_slS ?_ ?_); (walk_at "sz"))
  | with_reducible refine s_tup ?_
  | with_reducible refine s_lst ?_
  | with_reducible refine s_par ?_
  | with_reducible refine s_pair ?_
  | with_reducible refine s_M1 ?_
  | with_reducible refine s_isStr ?_
  | with_reducible refine s_revS ?_
  | ((with_reducible refine s_revS1 ?_ ?_); (walk_at "sz"))
  | with_reducible refine s_fldE ?_
  | with_reducible refine s_propE ?_
  | ((with_reducible refine u_draw ?_ ?_ ?_ ?_); omega; omega; (walk_at "pool"); (intro _ _ _ _ _ _))
  | ((with_reducible refine u_pool ?_); (intro _ _ _ _ _))
  | with_reducible refine u_is_integer ?_
  | with_reducible refine s_isiII ?_
  | with_reducible refine s_isiIB ?_
  | with_reducible refine s_isiSS ?_
  | ((with_reducible apply u_fldRing); assumption; (walk_at "ring"))
  | ((with_reducible apply u_textP); (walk_at "ring"))
  | ((with_reducible apply u_strRing); (walk_at "ring"))
  | ((with_reducible apply u_eqRing); (walk_at "ring"); (walk_at "ring"))
  | ((with_reducible apply u_isiRing); assumption; (walk_at "ring"))
  | ((with_reducible refine u_is_word ?_ ?_); omega; (intro _ _))
  | ((with_reducible refine u_turnings ?_ ?_); omega; (intro _ _ _ _ _))
  | with_reducible refine s_makeE ?_
  | with_reducible refine s_methE ?_)
local macro_rules | `(tactic| walk_at "go") => `(tactic| repeat (walk_at "st"))
local macro_rules | `(tactic| walk_at "exs") => `(tactic| first | exact Ex.rfl | assumption | (apply Ex.snoc (by assumption); walk_at "exs") | (apply Ex.snocW (by assumption); walk_at "exs"))
local macro_rules | `(tactic| walk_at "kind") => `(tactic| first | assumption | (apply KindAt.ex0 (by assumption); (walk_at "kind")) | (apply KindAt.exP (by assumption) (by assumption); (walk_at "kind")))
local macro_rules | `(tactic| walk_at "st") => `(tactic| first
  | with_reducible refine s_lenSet ?_
  | with_reducible refine s_drop ?_
  | with_reducible refine s_bm ?_
  | with_reducible refine s_notN ?_
  | with_reducible refine s_isN ?_
  | ((with_reducible apply s_tyL); (walk_at "hp"))
  | with_reducible refine s_enumT ?_
  | ((with_reducible apply s_enumTA); (walk_at "sqt"))
  | with_reducible refine s_lc2 ?_)
local macro_rules | `(tactic| walk_at "lit") => `(tactic| exact lit_MRK)
local macro_rules | `(tactic| walk_at "st") => `(tactic| first
  | with_reducible refine s_dcT ?_
  | with_reducible refine s_dc ?_)
local macro_rules | `(tactic| walk_at "lit") => `(tactic| exact lit_z)
/-- _law_model: 0 _law_pool_here 1 _law_abc 2 _law_most 3 _law_great 4 _law_posts 5 _law_steps 6 _law_ends 7 _law_post 8 _law_mark 9 _law_oks -/
def t_law_model (K : PySem.W.Frag) : TS :=
  (tSeq (tAsg (tCall (sp_law_names K) [] E0 (tCons (tVar 0) (tCons (tOp rAddI (tC (.int 1)) (tCall (sp_law_draw K) [] E0 (tCons (tVar 0) (tCons (tVar 2) tNil)))) tNil))) (gName 4))
  (tSeq (tPar 5 6 (tCons tDNewT (tCons tDNewK tNil)))
  (tSeq (tFor (iList K (tVar 4)) (gName 7) (tSeq (tFor (iStr (tVar 1)) (gName 8) (sDPut (tVar 5) (tTup (tCons (tVar 7) (tCons (tVar 8) tNil))) (tTup (tCons (tOp (rIxL K) (tVar 4) (tCall (sp_law_draw K) [] E0 (tCons (tVar 0) (tCons (tCB (rLenV K) (tCons (tVar 4) tNil)) tNil)))) (tCons (tCall (sp_law_amount K) [] E0 (tCons (tVar 0) (tCons (tVar 3) tNil))) tNil)))))
  (tSeq (sDPut (tVar 6) (tVar 7) (tTup (tCons (tVar 7) (tCons (tC (.int 0)) tNil))))
  (tIfS (tTest (tOp rGtI (tCall (sp_law_draw K) [] E0 (tCons (tVar 0) (tCons (tC (.int 3)) tNil))) (tC (.int 0)))) (sDPut (tVar 6) (tVar 7) (tTup (tCons (tOp (rIxL K) (tVar 4) (tCall (sp_law_draw K) [] E0 (tCons (tVar 0) (tCons (tCB (rLenV K) (tCons (tVar 4) tNil)) tNil)))) (tCons (tCall (sp_law_amount K) [] E0 (tCons (tVar 0) (tCons (tVar 3) tNil))) tNil)))) tNext))))
  (tSeq (tAsg (tLc (iList K (tVar 4)) (gName 7) (tTest (tOp rEq (tCall (sp_law_draw K) [] E0 (tCons (tVar 0) (tCons (tC (.int 2)) tNil))) (tC (.int 0)))) (tVar 7) [7]) (gName 9))
  (tRet (tLst (tCons (tVar 1) (tCons (tVar 4) (tCons (tVar 5) (tCons (tVar 6) (tCons (tVar 9) tNil)))))))))))
section
variable {K : PySem.W.Frag} {vs : List V} {H H' : Hp} {Q : VK} {E : XK} {x q : Addr} {M : LM}
theorem s_dnewT {σ : St} (k : ∀ p H2, H p = none → Ex [] H H2 → H2 p = some (.dT []) → Q (.ref p) H2) : tDNewT σ H Q := fun p hp => k p _ hp (Ex.new hp) upd_same
theorem s_dnewK {σ : St} (k : ∀ p H2, H p = none → Ex [] H H2 → H2 p = some (.dK []) → Q (.ref p) H2) : tDNewK σ H Q := fun p hp => k p _ hp (Ex.new hp) upd_same
theorem s_dput {td ty tv : TE} {n b c : St → Hp → Prop} {rt : VK} {σ : St} (k : tv σ H fun v H1 => td σ H1 fun x H2 => ty σ H2 fun y H3 => ∃ a H4, x = .ref a ∧ DPut H3 a y v H4 ∧ n σ H4) : sDPut td ty tv ⟨n, rt, b, c⟩ σ H := k
def TE1 (K : PySem.W.Frag) (H : Hp) (st : List (List Nat)) (kt : List (List Key × V)) (b : List Nat) (c : Nat) : Prop := ∃ (z : List Nat × Int) (p : Addr), valV kt [kS b, kS [c]] = some (.ref p) ∧ SqT K H p [vS z.1, .int z.2] ∧ z.1 ∈ st ∧ z.2.natAbs ≤ 2 ^ 200
def EE1 (K : PySem.W.Frag) (H : Hp) (st : List (List Nat)) (ke : List (Key × V)) (b : List Nat) : Prop := ∃ (z : List Nat × Int) (p : Addr), valV ke (kS b) = some (.ref p) ∧ SqT K H p [vS z.1, .int z.2] ∧ z.1 ∈ st ∧ z.2.natAbs ≤ 2 ^ 200
structure MSt (K : PySem.W.Frag) (H0 : Hp) (a po ss es : Addr) (st : List (List Nat)) (D : List Nat → Nat → Prop) (D2 : List Nat → Prop) (n : Nat) (H : Hp) : Prop where
  ex : Ex [a] H0 H
  pool : PoolAt H a
  po : H po = some (.lst (st.map vS))
  tb : ∃ kt, H ss = some (.dT kt) ∧ kt.length ≤ n ∧ ∀ b c, D b c → TE1 K H st kt b c
  en : ∃ ke, H es = some (.dK ke) ∧ ke.length ≤ n ∧ ∀ b, D2 b → EE1 K H st ke b
section
variable {H0 : Hp} {a po ss es : Addr} {st : List (List Nat)} {D : List Nat → Nat → Prop} {D2 : List Nat → Prop} {n : Nat}
theorem MSt.ex0 (e : Ex [] H H') (m : MSt K H0 a po ss es st D D2 n H) : MSt K H0 a po ss es st D D2 n H' := by
  obtain ⟨h1, h2, h3, ⟨kt, h4, h5, h6⟩, ⟨ke, h7, h8, h9⟩⟩ := m
  refine ⟨h1.trans e.wide, h2.ex e (by simp), e.get0 h3, ⟨kt, e.get0 h4, h5, fun b c d => ?_⟩, ⟨ke, e.get0 h7, h8, fun b d => ?_⟩⟩
  · obtain ⟨z, p, z1, z2, z3⟩ := h6 b c d
    exact ⟨z, p, z1, e.sqT (by simp) z2, z3⟩
  · obtain ⟨z, p, z1, z2, z3⟩ := h9 b d
    exact ⟨z, p, z1, e.sqT (by simp) z2, z3⟩
theorem MSt.draw (e : Ex [a] H H') (hp : PoolAt H' a) (m : MSt K H0 a po ss es st D D2 n H) : MSt K H0 a po ss es st D D2 n H' := by
  obtain ⟨h1, h2, h3, ⟨kt, h4, h5, h6⟩, ⟨ke, h7, h8, h9⟩⟩ := m
  have h2' := h2
  obtain ⟨y1, y2, y3, hq⟩ := h2'
  refine ⟨h1.trans e, hp, e.get ?_ h3, ⟨kt, e.get ?_ h4, h5, fun b c d => ?_⟩, ⟨ke, e.get ?_ h7, h8, fun b d => ?_⟩⟩
  · simp only [List.mem_singleton]; intro w; rw [w, hq] at h3; exact strs_ne (HO.lst.inj (Option.some.inj h3)).symm
  · simp only [List.mem_singleton]; intro w; rw [w, hq] at h4; cases h4
  · obtain ⟨z, p, z1, z2, z3⟩ := h6 b c d
    exact ⟨z, p, z1, sqT_pool h2 e z2, z3⟩
  · simp only [List.mem_singleton]; intro w; rw [w, hq] at h7; cases h7
  · obtain ⟨z, p, z1, z2, z3⟩ := h9 b d
    exact ⟨z, p, z1, sqT_pool h2 e z2, z3⟩
theorem MSt.putT {k0 p : Addr} {x y : List Nat} {c : Nat} {z : Int} (m : MSt K H0 a po ss es st D D2 n H) (hss : H0 ss = none) (hn : n ≤ 1000) (hk : H k0 = some (.tup [vS x, vS [c]])) (hp : SqT K H p [vS y, .int z]) (hy : y ∈ st) (hz : z.natAbs ≤ 2 ^ 200) :
    ∃ H4, DPut H ss (.ref k0) (.ref p) H4 ∧ MSt K H0 a po ss es st (fun b d => D b d ∨ (b = x ∧ d = c)) D2 (n + 1) H4 := by
  obtain ⟨h1, h2, h3, ⟨kt, h4, h5, h6⟩, ⟨ke, h7, h8, h9⟩⟩ := m
  have h2' := h2
  obtain ⟨y1, y2, y3, hq⟩ := h2'
  have e : Ex [ss] H (upd H ss (.dT (putK kt [kS x, kS [c]] (.ref p)))) := Ex.put (by simp)
  have keep : ∀ {t : Addr} {xs : List V}, SqT K H t xs → SqT K (upd H ss (.dT (putK kt [kS x, kS [c]] (.ref p)))) t xs := fun h => sqT_non h4 (fun _ w => by cases w) (fun _ _ w => by cases w) e h
  refine ⟨_, DPut.t h4 (k := [kS x, kS [c]]) hk (Nat.lt_of_le_of_lt (Nat.le_trans h5 hn) (by decide)), ?_, ?_, ?_, ⟨_, upd_same, Nat.le_trans (length_putK _ _ _) (by omega), fun b d hbd => ?_⟩, ⟨ke, ?_, by omega, fun b hb => ?_⟩⟩
  · exact Ex.dropN hss h1 e
  · exact h2.ex e (by simp only [List.mem_singleton]; intro w; rw [← w, hq] at h4; cases h4)
  · exact e.get (by simp only [List.mem_singleton]; intro w; rw [w, h4] at h3; cases h3) h3
  · by_cases hk : b = x ∧ d = c
    · obtain ⟨rfl, rfl⟩ := hk
      exact ⟨(y, z), p, by rw [valV_put, if_pos rfl], keep hp, hy, hz⟩
    · obtain ⟨z', p', z1, z2, z3⟩ := h6 b d (hbd.resolve_right hk)
      refine ⟨z', p', ?_, keep z2, z3⟩
      rw [valV_put, if_neg, z1]
      intro w
      have w1 := List.cons.inj w
      have w2 := List.cons.inj w1.2
      exact hk ⟨kS_inj w1.1, by have := kS_inj w2.1; simpa using this⟩
  · exact e.get (by simp only [List.mem_singleton]; intro w; rw [w, h4] at h7; cases h7) h7
  · obtain ⟨z', p', z1, z2, z3⟩ := h9 b hb
    exact ⟨z', p', z1, keep z2, z3⟩
theorem MSt.putE {p : Addr} {x y : List Nat} {z : Int} (m : MSt K H0 a po ss es st D D2 n H) (hes : H0 es = none) (hn : n ≤ 1000) (hp : SqT K H p [vS y, .int z]) (hy : y ∈ st) (hz : z.natAbs ≤ 2 ^ 200) :
    ∃ H4, DPut H es (vS x) (.ref p) H4 ∧ MSt K H0 a po ss es st D (fun b => D2 b ∨ b = x) (n + 1) H4 := by
  obtain ⟨h1, h2, h3, ⟨kt, h4, h5, h6⟩, ⟨ke, h7, h8, h9⟩⟩ := m
  have h2' := h2
  obtain ⟨y1, y2, y3, hq⟩ := h2'
  have e : Ex [es] H (upd H es (.dK (putK ke (kS x) (.ref p)))) := Ex.put (by simp)
  have keep : ∀ {t : Addr} {xs : List V}, SqT K H t xs → SqT K (upd H es (.dK (putK ke (kS x) (.ref p)))) t xs := fun h => sqT_non h7 (fun _ w => by cases w) (fun _ _ w => by cases w) e h
  refine ⟨_, DPut.k h7 (k := kS x) (Nat.lt_of_le_of_lt (Nat.le_trans h8 hn) (by decide)), ?_, ?_, ?_, ⟨kt, ?_, by omega, fun b d hbd => ?_⟩, ⟨_, upd_same, Nat.le_trans (length_putK _ _ _) (by omega), fun b hb => ?_⟩⟩
  · exact Ex.dropN hes h1 e
  · exact h2.ex e (by simp only [List.mem_singleton]; intro w; rw [← w, hq] at h7; cases h7)
  · exact e.get (by simp only [List.mem_singleton]; intro w; rw [w, h7] at h3; cases h3) h3
  · exact e.get (by simp only [List.mem_singleton]; intro w; rw [w, h7] at h4; cases h4) h4
  · obtain ⟨z', p', z1, z2, z3⟩ := h6 b d hbd
    exact ⟨z', p', z1, keep z2, z3⟩
  · by_cases hk : b = x
    · subst hk
      exact ⟨(y, z), p, by rw [valV_put, if_pos rfl], keep hp, hy, hz⟩
    · obtain ⟨z', p', z1, z2, z3⟩ := h9 b (hb.resolve_right hk)
      refine ⟨z', p', ?_, keep z2, z3⟩
      rw [valV_put, if_neg (fun w => hk (kS_inj w)), z1]
theorem MSt.weak {D' : List Nat → Nat → Prop} {D2' : List Nat → Prop} {n' : Nat} (m : MSt K H0 a po ss es st D D2 n H) (h1 : ∀ b c, D' b c → D b c) (h2 : ∀ b, D2' b → D2 b) (h3 : n ≤ n') : MSt K H0 a po ss es st D' D2' n' H := by
  obtain ⟨z1, z2, z3, ⟨kt, h4, h5, h6⟩, ⟨ke, h7, h8, h9⟩⟩ := m
  exact ⟨z1, z2, z3, ⟨kt, h4, by omega, fun b c d => h6 b c (h1 b c d)⟩, ⟨ke, h7, by omega, fun b d => h9 b (h2 b d)⟩⟩
end
theorem Ex.freeP {a b : Addr} (hp : PoolAt H' a) (e : Ex [a] H H') (h : H' b = none) : H b = none := by
  cases hh : H b with
  | none => rfl
  | some o =>
    rw [e b o (by simp only [List.mem_singleton]; intro w; exact hp.there (w ▸ h)) hh] at h
    cases h
theorem filter_sub {l : List (List Nat)} : ∀ {m : List (List Nat)}, m.Sublist l → l.Nodup → l.filter (fun a => decide (a ∈ m)) = m := by
  intro m hs
  induction hs with
  | slnil => intro _; rfl
  | @cons l1 l2 b h ih =>
    intro hn
    obtain ⟨h1, h2⟩ := List.nodup_cons.mp hn
    rw [List.filter_cons_of_neg (by simpa using fun z => h1 (h.subset z))]
    exact ih h2
  | @cons_cons l1 l2 b h ih =>
    intro hn
    obtain ⟨h1, h2⟩ := List.nodup_cons.mp hn
    rw [List.filter_cons_of_pos (by simp)]
    have := ih h2
    rw [show l2.filter (fun a => decide (a ∈ b :: l1)) = l2.filter (fun a => decide (a ∈ l1)) from List.filter_congr fun a ha => by
      have : a ≠ b := fun z => h1 (z ▸ ha)
      simp [this], this]
theorem pure_law_model (h : sp_law_model K vs H Q E) : t_law_model K (E1 Q) (start ["_law_pool_here", "_law_abc", "_law_most", "_law_great", "_law_posts", "_law_steps", "_law_ends", "_law_post", "_law_mark", "_law_oks"] vs) H := by
  obtain ⟨a, s, m, g, rfl, hs, m1, m6, hp, k⟩ := h
  show t_law_model K (E1 Q) [some (.ref a), some (vS s), some (.int m), some (.bl g), none, none, none, none, none, none] H
  unfold t_law_model
  walk_at "go"
  rename_i r H1 r0 r1 e1 p1
  refine u_names (by omega) (by omega) p1 fun st po H2 hst hstl npo e2 p2 h2 => ?_
  walk_at "go"
  refine s_dnewT fun ss H3 nss e3 h3 => ?_
  walk_at "go"
  refine s_dnewK fun es H4 nes e4 h4 => ?_
  walk_at "go"
  have e02 : Ex [a] H H2 := e1.trans e2
  have hss : H ss = none := Ex.freeP p2 e02 nss
  have hes : H es = none := Ex.freeP p2 e02 (e3.free nes)
  have hpo : H po = none := Ex.freeP p1 e1 npo
  have hsl := hs.2.1
  have hst6 := hst.2.1
  have m0 : MSt K H a po ss es st (fun b c => b ∈ st.take 0 ∧ c ∈ s) (fun b => b ∈ st.take 0) 0 H4 := by
    have e24 := e3.trans e4
    exact ⟨e02.trans e24.wide, p2.ex e24 (by simp), e24.get0 h2, ⟨[], e4.get0 h3, by simp, fun b c d => by simp at d⟩, ⟨[], h4, by simp, fun b d => by simp at d⟩⟩
  clear e1 e2 e3 e4 p1 p2 h2 h3 h4 npo nss nes e02
  refine for_run (walk_list (xs := st.map vS)) (fun i σ G => ∃ x7 x8, σ = [some (.ref a), some (vS s), some (.int m), some (.bl g), some (.ref po), some (.ref ss), some (.ref es), x7, x8, none] ∧ MSt K H a po ss es st (fun b c => b ∈ st.take i ∧ c ∈ s) (fun b => b ∈ st.take i) (i * 10) G) ⟨none, none, rfl, m0⟩ (fun i σ G _ ⟨_, _, _, z⟩ => SqL.of z.po) ?_ ?_
  · rintro i x σ G G2 hi ⟨x7, x8, rfl, mi⟩ ⟨rfl, hx⟩
    rw [List.length_map] at hi
    rw [List.getElem?_map, List.getElem?_eq_getElem hi] at hx
    cases hx
    have hin : st[i] ∈ st := List.getElem_mem hi
    have htk : st.take (i + 1) = st.take i ++ [st[i]] := by rw [List.take_add_one, List.getElem?_eq_getElem hi]; rfl
    rw [htk]
    generalize st[i] = b at hin
    have val : ∀ {Q' : VK} {G : Hp} {D : List Nat → Nat → Prop} {D2 : List Nat → Prop} {n : Nat} {σ : St}, σ[0]? = some (some (.ref a)) → σ[4]? = some (some (.ref po)) → σ[3]? = some (some (.bl g)) → MSt K H a po ss es st D D2 n G → (∀ p y z G', Ex [a] G G' → MSt K H a po ss es st D D2 n G' → SqT K G' p [vS y, .int z] → y ∈ st → z.natAbs ≤ 2 ^ 200 → Q' (.ref p) G') →
        (tTup (tCons (tOp (rIxL K) (tVar 4) (tCall (sp_law_draw K) [] E0 (tCons (tVar 0) (tCons (tCB (rLenV K) (tCons (tVar 4) tNil)) tNil)))) (tCons (tCall (sp_law_amount K) [] E0 (tCons (tVar 0) (tCons (tVar 3) tNil))) tNil))) σ G Q' := by
      intro Q' G D D2 n σ s0 s4 s3 mg kq
      have hl : 0 < (st.map vS).length ∧ (st.map vS).length ≤ 6 := by rw [List.length_map]; exact ⟨hst.1, hst6⟩
      refine s_tup (s_cons (s_op (s_var s4 (s_call (s_cons (s_var s0 (s_cons (s_cb (s_cons (s_var s4 (s_nil (s_lenL (SqL.of mg.po) ?_))))))))))))
      refine s_nil ?_
      refine u_draw (by omega) (by omega) mg.pool fun r G1 r0 r1 e1 p1 => ?_
      have m1 := mg.draw e1 p1
      rw [List.length_map] at r1
      obtain ⟨y, hy⟩ : ∃ y, st[r.toNat]? = some y := ⟨_, List.getElem?_eq_getElem (by omega)⟩
      refine s_ixL (xs := st.map vS) (v := vS y) (SqL.of m1.po) (atI_of r0 (by rw [List.getElem?_map, hy]; rfl)) ?_
      refine s_cons (s_call (s_cons (s_var s0 (s_cons (s_var s3 (s_nil ?_))))))
      refine u_amount p1 fun z G2 hz e2 p2 => ?_
      have m2 := m1.draw e2 p2
      refine s_nil ?_
      refine s_alloc (by show 2 ≤ sizeLine; decide) fun p G3 np e3 h3 => ?_
      exact kq p y z G3 ((e1.trans e2).trans e3.wide) (m2.ex0 e3) (SqT.of h3) (List.mem_of_getElem? hy) hz
    refine s_gName ?_
    refine s_seq ?_
    refine s_for ?_
    walk_at "go"
    have wk := walk_str (z := S s)
    have hsz : (S s).cps.size = s.length := by simp [S]
    rw [hsz] at wk
    refine for_run wk (fun j σ G => ∃ x8, σ = [some (.ref a), some (vS s), some (.int m), some (.bl g), some (.ref po), some (.ref ss), some (.ref es), some (vS b), x8, none] ∧ MSt K H a po ss es st (fun b' c' => (b' ∈ st.take i ∧ c' ∈ s) ∨ (b' = b ∧ c' ∈ s.take j)) (fun b' => b' ∈ st.take i) (i * 10 + j) G) ⟨_, rfl, mi.weak (fun b' c' hh => hh.resolve_right fun w => by simp at w) (fun _ h => h) (by omega)⟩ (fun _ _ _ _ _ => trivial) ?_ ?_
    · rintro j y σ G3 G4 hj ⟨x8, rfl, mj⟩ ⟨rfl, c, hc, ev⟩
      have ev : y = vS [c] := ev
      subst ev
      have hc : s[j]? = some c := by simpa [S] using hc
      have ht1 : s.take (j + 1) = s.take j ++ [c] := by rw [List.take_add_one, hc]; rfl
      rw [ht1]
      refine s_gName ?_
      refine s_dput ?_
      refine val rfl rfl rfl mj fun p y z G5 e5 m5 hp5 hy hz => ?_
      walk_at "go"
      rename_i k0 G6 nk e6 h6
      obtain ⟨G7, d7, m7⟩ := (m5.ex0 e6).putT hss (by omega) h6 (e6.sqT (by simp) hp5) hy hz
      refine ⟨ss, G7, rfl, d7, _, rfl, m7.weak (fun b' c' hh => ?_) (fun _ h => h) (by omega)⟩
      rcases hh with hh | ⟨rfl, hh⟩
      · exact .inl (.inl hh)
      · rcases List.mem_append.mp hh with hh | hh
        · exact .inl (.inr ⟨rfl, hh⟩)
        · exact .inr ⟨rfl, List.mem_singleton.mp hh⟩
    · rintro σ G3 ⟨x8, rfl, mj⟩
      rw [List.take_length] at mj
      refine s_seq ?_
      refine s_dput ?_
      walk_at "go"
      rename_i p G5 np e5 h5
      obtain ⟨G7, d7, m7⟩ := (mj.ex0 e5).putE (x := b) hes (by omega) (SqT.of h5) hin (show (0 : Int).natAbs ≤ 2 ^ 200 by decide)
      refine ⟨es, G7, rfl, d7, ?_⟩
      have fin : ∀ {n : Nat} {G : Hp} {D2 : List Nat → Prop}, MSt K H a po ss es st (fun b' c' => (b' ∈ st.take i ∧ c' ∈ s) ∨ (b' = b ∧ c' ∈ s)) D2 n G → n ≤ i * 10 + 10 → (∀ b', b' ∈ st.take i ∨ b' = b → D2 b') → MSt K H a po ss es st (fun b' c' => b' ∈ st.take i ++ [b] ∧ c' ∈ s) (fun b' => b' ∈ st.take i ++ [b]) ((i + 1) * 10) G := fun mm hn hd => mm.weak (fun b' c' hh => by
          rcases List.mem_append.mp hh.1 with h | h
          · exact .inl ⟨h, hh.2⟩
          · exact .inr ⟨List.mem_singleton.mp h, hh.2⟩) (fun b' hh => by
          rcases List.mem_append.mp hh with h | h
          · exact hd b' (.inl h)
          · exact hd b' (.inr (List.mem_singleton.mp h))) (by omega)
      have p7 := m7.pool
      walk_at "go"
      rename_i r G8 r0 r1 e8 p8
      have m8 := m7.draw e8 p8
      refine s_2 (fun hr => ?_) (fun hr => ?_)
      · refine s_dput ?_
        refine val rfl rfl rfl m8 fun p y z G9 e9 m9 hp9 hy hz => ?_
        walk_at "go"
        obtain ⟨G10, d10, m10⟩ := m9.putE (x := b) hes (by omega) hp9 hy hz
        exact ⟨es, G10, rfl, d10, _, _, rfl, fin m10 (by omega) fun b' hb => .inl hb⟩
      · walk_at "go"
        exact ⟨_, _, rfl, fin m8 (by omega) fun b' hb => hb⟩
  · rintro σ G ⟨x7, x8, rfl, mi⟩
    rw [List.length_map, List.take_length] at mi
    have hpoa : po ≠ a := fun w => hp.there (w ▸ hpo)
    refine s_seq ?_
    refine s_asg ?_
    refine s_lc ?_
    refine s_iList ?_
    refine s_var rfl ?_
    refine s_iListA (xs := st.map vS) (SqL.of mi.po) ?_
    refine lc_subL mi.po hpoa (by simp) (by omega) mi.pool (fun x G1 R hx e1 p1 kr => ?_) fun D G1 ok hD e1 p1 hsub h1 => ?_
    · walk_at "go"
      rename_i r G2 r0 r1 e2 p2
      exact kr _ _ e2 p2
    have m1 := mi.draw e1 p1
    walk_at "go"
    rename_i q G2 nq e2 h2
    have m2 := m1.ex0 e2
    obtain ⟨kt, h4, h5, h6⟩ := m2.tb
    obtain ⟨ke, h7, h8, h9⟩ := m2.en
    have cT : ∀ b c, b ∈ st → c ∈ s → ∃ p, valV kt [kS b, kS [c]] = some (.ref p) ∧ SqT K G2 p [vS (Classical.epsilon fun z : List Nat × Int => ∃ p, valV kt [kS b, kS [c]] = some (.ref p) ∧ SqT K G2 p [vS z.1, .int z.2] ∧ z.1 ∈ st ∧ z.2.natAbs ≤ 2 ^ 200).1, .int (Classical.epsilon fun z : List Nat × Int => ∃ p, valV kt [kS b, kS [c]] = some (.ref p) ∧ SqT K G2 p [vS z.1, .int z.2] ∧ z.1 ∈ st ∧ z.2.natAbs ≤ 2 ^ 200).2] ∧ (Classical.epsilon fun z : List Nat × Int => ∃ p, valV kt [kS b, kS [c]] = some (.ref p) ∧ SqT K G2 p [vS z.1, .int z.2] ∧ z.1 ∈ st ∧ z.2.natAbs ≤ 2 ^ 200).1 ∈ st ∧ (Classical.epsilon fun z : List Nat × Int => ∃ p, valV kt [kS b, kS [c]] = some (.ref p) ∧ SqT K G2 p [vS z.1, .int z.2] ∧ z.1 ∈ st ∧ z.2.natAbs ≤ 2 ^ 200).2.natAbs ≤ 2 ^ 200 := fun b c hb hc => Classical.epsilon_spec (p := fun z : List Nat × Int => ∃ p, valV kt [kS b, kS [c]] = some (.ref p) ∧ SqT K G2 p [vS z.1, .int z.2] ∧ z.1 ∈ st ∧ z.2.natAbs ≤ 2 ^ 200) (h6 b c ⟨hb, hc⟩)
    have cE : ∀ b, b ∈ st → ∃ p, valV ke (kS b) = some (.ref p) ∧ SqT K G2 p [vS (Classical.epsilon fun z : List Nat × Int => ∃ p, valV ke (kS b) = some (.ref p) ∧ SqT K G2 p [vS z.1, .int z.2] ∧ z.1 ∈ st ∧ z.2.natAbs ≤ 2 ^ 200).1, .int (Classical.epsilon fun z : List Nat × Int => ∃ p, valV ke (kS b) = some (.ref p) ∧ SqT K G2 p [vS z.1, .int z.2] ∧ z.1 ∈ st ∧ z.2.natAbs ≤ 2 ^ 200).2] ∧ (Classical.epsilon fun z : List Nat × Int => ∃ p, valV ke (kS b) = some (.ref p) ∧ SqT K G2 p [vS z.1, .int z.2] ∧ z.1 ∈ st ∧ z.2.natAbs ≤ 2 ^ 200).1 ∈ st ∧ (Classical.epsilon fun z : List Nat × Int => ∃ p, valV ke (kS b) = some (.ref p) ∧ SqT K G2 p [vS z.1, .int z.2] ∧ z.1 ∈ st ∧ z.2.natAbs ≤ 2 ^ 200).2.natAbs ≤ 2 ^ 200 := fun b hb => Classical.epsilon_spec (p := fun z : List Nat × Int => ∃ p, valV ke (kS b) = some (.ref p) ∧ SqT K G2 p [vS z.1, .int z.2] ∧ z.1 ∈ st ∧ z.2.natAbs ≤ 2 ^ 200) (h9 b hb)
    have hsub2 : ∀ b ∈ ok, b ∈ st := fun b hb => hsub.subset hb
    refine k q ⟨s, st, fun b c => Classical.epsilon fun z : List Nat × Int => ∃ p, valV kt [kS b, kS [c]] = some (.ref p) ∧ SqT K G2 p [vS z.1, .int z.2] ∧ z.1 ∈ st ∧ z.2.natAbs ≤ 2 ^ 200, fun b => Classical.epsilon fun z : List Nat × Int => ∃ p, valV ke (kS b) = some (.ref p) ∧ SqT K G2 p [vS z.1, .int z.2] ∧ z.1 ∈ st ∧ z.2.natAbs ≤ 2 ^ 200, ok⟩ G2 ⟨⟨hs, hst, fun b hb c hc => ?_, fun b hb => ?_, hsub2⟩, ⟨fun b hb c hc => ?_, fun b hb => ?_⟩, filter_sub hsub hst.2.2.1⟩ rfl (by show ((st.length : Nat) : Int) ≤ m; omega) (Ex.freeP p1 m1.ex nq) m2.ex m2.pool ⟨po, ss, es, D, kt, ke, h2, m2.po, h4, fun b hb c hc => ?_, h7, fun b hb => ?_, e2.get0 h1⟩
    · obtain ⟨p, _, _, z, _⟩ := cT b c hb hc
      exact z
    · obtain ⟨p, _, _, z, _⟩ := cE b hb
      exact z
    · obtain ⟨p, _, _, _, z⟩ := cT b c hb hc
      exact z
    · obtain ⟨p, _, _, _, z⟩ := cE b hb
      exact z
    · obtain ⟨p, z1, z2, _, _⟩ := cT b c hb hc
      exact ⟨p, z1, z2⟩
    · obtain ⟨p, z1, z2, _, _⟩ := cE b hb
      exact ⟨p, z1, z2⟩
end
end WB
namespace WB
open PySem PySem.Spec PyProof.Rows L2
local macro_rules | `(tactic| walk_at "lit") => `(tactic| first | exact lit_abc | exact lit_empty)
local macro_rules | `(tactic| walk_at "nm") => `(tactic| focus first | exact List.not_mem_nil | (simp only [List.mem_singleton]; first | assumption | (exact Ne.symm (by assumption)) | (intro hz; subst hz; simp_all; done)))
local macro_rules | `(tactic| walk_at "hp") => `(tactic| first | assumption | (apply Ex.get0 (by assumption); walk_at "hp") | (apply Ex.get (by assumption); (walk_at "nm"); (walk_at "hp")))
local macro_rules | `(tactic| walk_at "sq") => `(tactic| first | assumption | (apply SqL.of; walk_at "hp") | (apply Ex.sqL (by assumption); (walk_at "nm"); (walk_at "sq")))
local macro_rules | `(tactic| walk_at "sqt") => `(tactic| first | assumption | (apply SqT.of; walk_at "hp") | (apply Ex.sqT (by assumption); (walk_at "nm"); (walk_at "sqt")))
local macro_rules | `(tactic| walk_at "sz") => `(tactic| focus ((with_reducible refine Nat.le_trans (m := 100000) ?_ (by decide)); first | omega | (simp; done) | (simp; omega)))
local macro_rules | `(tactic| walk_at "mul") => `(tactic| first | exact Or.inr ⟨by omega, by omega⟩ | exact Or.inl ⟨by omega, by omega⟩)
local macro_rules | `(tactic| walk_at "pool") => `(tactic| first | assumption | (apply PoolAt.ex (by assumption); (walk_at "nm"); (walk_at "pool")))
local macro_rules | `(tactic| walk_at "ring") => `(tactic| first | assumption | (apply RingAt.ex (by assumption); (walk_at "nm"); (walk_at "ring")))
local macro_rules | `(tactic| walk_at "st") => `(tactic| first
  | with_reducible refine s_seq ?_
  | with_reducible refine s_asg ?_
  | with_reducible refine s_gName ?_
  | with_reducible refine s_ret ?_
  | with_reducible refine s_ifS ?_
  | with_reducible refine s_next ?_
  | with_reducible refine s_op ?_
  | ((with_reducible apply s_var); exact rfl)
  | ((with_reducible apply s_cS); (walk_at "lit"))
  | with_reducible refine s_c ?_
  | with_reducible refine s_cb ?_
  | with_reducible refine s_cons ?_
  | with_reducible refine s_nil ?_
  | with_reducible refine s_un ?_
  | with_reducible refine s_call ?_
  | with_reducible refine s_test ?_
  | with_reducible refine s_tB ?_
  | with_reducible refine s_blQ ?_
  | with_reducible refine s_not ?_
  | with_reducible refine s_and ?_
  | with_reducible refine s_or ?_
  | with_reducible refine s_andV ?_
  | with_reducible refine s_orV ?_
  | with_reducible refine s_notV ?_
  | with_reducible refine s_ifE ?_
  | with_reducible refine s_chain ?_
  | ((with_reducible refine s_T ?_ ?_); (with_reducible exact rfl))
  | with_reducible refine s_nT ?_
  | with_reducible refine s_nF ?_
  | ((with_reducible refine s_F ?_ ?_); (with_reducible exact rfl))
  | ((with_reducible refine s_T ?_ ?_); assumption)
  | ((with_reducible refine s_F ?_ ?_); assumption)
  | ((with_reducible refine s_nB ?_ ?_); assumption)
  | ((with_reducible refine s_nA ?_ ?_); assumption)
  | ((with_reducible refine s_Td ?_ ?_); omega)
  | ((with_reducible refine s_Fd ?_ ?_); omega)
  | ((with_reducible refine s_nTd ?_ ?_); omega)
  | ((with_reducible refine s_nFd ?_ ?_); omega)
  | with_reducible refine s_sfld ?_
  | with_reducible refine s_addI ?_
  | with_reducible refine s_subI ?_
  | ((with_reducible refine s_mulI ?_ ?_); (walk_at "mul"))
  | ((with_reducible refine s_divI ?_ ?_); exact ⟨by omega, by omega⟩)
  | ((with_reducible refine s_modI ?_ ?_); omega)
  | ((with_reducible refine s_powI ?_ ?_); exact ⟨by decide, by decide, by decide⟩)
  | with_reducible refine s_ltI ?_
  | with_reducible refine s_leI ?_
  | with_reducible refine s_gtI ?_
  | with_reducible refine s_geI ?_
  | with_reducible refine s_negI ?_
  | with_reducible refine s_absI ?_
  | with_reducible refine s_intI ?_
  | with_reducible refine s_min2 ?_
  | with_reducible refine s_max2 ?_
  | with_reducible refine s_eqI ?_
  | with_reducible refine s_neI ?_
  | with_reducible refine s_eqS ?_
  | with_reducible refine s_neS ?_
  | with_reducible refine s_inSg ?_
  | with_reducible refine s_notInSg ?_
  | ((with_reducible refine s_addS ?_ ?_); (walk_at "sz"))
  | ((with_reducible refine s_lenS ?_ ?_); (walk_at "sz"))
  | ((with_reducible apply s_lenL); (walk_at "sq"))
  | ((with_reducible apply s_lenT); (walk_at "sqt"))
  | ((with_reducible apply s_ixL); (walk_at "sq"); exact rfl)
  | ((with_reducible apply s_ixT); (walk_at "sqt"); exact rfl)
  | with_reducible refine s_gSub ?_
  | ((with_reducible apply s_setL); (walk_at "hp"); (exact rfl); (intro _ _ _))
  | ((with_reducible refine s_alloc ?_ ?_); (walk_at "sz"); (intro _ _ _ _ _))
  | ((with_reducible refine s_divmod ?_ ?_); (exact ⟨by omega, PyProof.noPylong_small (by omega)⟩); (intro _ _ _ _ _))
  | ((with_reducible apply s_gTup); (walk_at "sqt"); (exact rfl))
  | ((with_reducible apply s_gLst); (walk_at "sq"); (exact rfl))
  | with_reducible refine s_gCons ?_
  | with_reducible refine s_gNil ?_
  | with_reducible refine s_lc ?_
  | ((with_reducible apply s_cat); (walk_at "hp"); (walk_at "hp"); (walk_at "sz"); (intro _ _ _ _ _))
  | ((with_reducible apply s_slL); (walk_at "sq"); (intro _ _ _ _ _))
  | with_reducible refine s_for ?_
  | with_reducible refine s_rng1 ?_
  | ((with_reducible refine s_rng1i ?_ ?_); (constructor <;> omega))
  | with_reducible refine s_rng2 ?_
  | ((with_reducible refine s_rng2i ?_ ?_); (refine ⟨?_, ?_, ?_, ?_⟩ <;> omega))
  | with_reducible refine s_iStr ?_
  | with_reducible refine s_iStrS ?_
  | with_reducible refine s_iList ?_
  | ((with_reducible apply s_iListA); (walk_at "sq"))
  | with_reducible refine s_iTup ?_
  | ((with_reducible apply s_iTupA); (walk_at "sqt"))
  | with_reducible refine s_sl ?_
  | with_reducible refine s_noPart ?_
  | with_reducible refine s_part ?_
  | with_reducible refine s_int1 ?_
  | ((with_reducible refine s_slS ?_ ?_); (walk_at "sz"))
  | with_reducible refine s_tup ?_
  | with_reducible refine s_lst ?_
  | with_reducible refine s_par ?_
  | with_reducible refine s_pair ?_
  | with_reducible refine s_M1 ?_
  | with_reducible refine s_isStr ?_
  | with_reducible refine s_revS ?_
  | ((with_reducible refine s_revS1 ?_ ?_); (walk_at "sz"))
  | with_reducible refine s_fldE ?_
  | with_reducible refine s_propE ?_
  | ((with_reducible refine u_draw ?_ ?_ ?_ ?_); omega; omega; (walk_at "pool"); (intro _ _ _ _ _ _))
  | ((with_reducible refine u_pool ?_); (intro _ _ _ _ _))
  | with_reducible refine u_is_integer ?_
  | with_reducible refine s_isiII ?_
  | with_reducible refine s_isiIB ?_
  | with_reducible refine s_isiSS ?_
  | ((with_reducible apply u_fldRing); assumption; (walk_at "ring"))
  | ((with_reducible apply u_textP); (walk_at "ring"))
  | ((with_reducible apply u_strRing); (walk_at "ring"))
  | ((with_reducible apply u_eqRing); (walk_at "ring"); (walk_at "ring"))
  | ((with_reducible apply u_isiRing); assumption; (walk_at "ring"))
  | ((with_reducible refine u_is_word ?_ ?_); omega; (intro _ _))
  | ((with_reducible refine u_turnings ?_ ?_); omega; (intro _ _ _ _ _))
  | with_reducible refine s_makeE ?_
  | with_reducible refine s_methE ?_)
local macro_rules | `(tactic| walk_at "go") => `(tactic| repeat (walk_at "st"))
local macro_rules | `(tactic| walk_at "exs") => `(tactic| first | exact Ex.rfl | assumption | (apply Ex.snoc (by assumption); walk_at "exs") | (apply Ex.snocW (by assumption); walk_at "exs"))
local macro_rules | `(tactic| walk_at "kind") => `(tactic| first | assumption | (apply KindAt.ex0 (by assumption); (walk_at "kind")) | (apply KindAt.exP (by assumption) (by assumption); (walk_at "kind")))
local macro_rules | `(tactic| walk_at "st") => `(tactic| first
  | with_reducible refine s_lenSet ?_
  | with_reducible refine s_drop ?_
  | with_reducible refine s_bm ?_
  | with_reducible refine s_notN ?_
  | with_reducible refine s_isN ?_
  | ((with_reducible apply s_tyL); (walk_at "hp"))
  | with_reducible refine s_enumT ?_
  | ((with_reducible apply s_enumTA); (walk_at "sqt"))
  | with_reducible refine s_lc2 ?_)
local macro_rules | `(tactic| walk_at "lit") => `(tactic| exact lit_MRK)
local macro_rules | `(tactic| walk_at "st") => `(tactic| first
  | with_reducible refine s_dcT ?_
  | with_reducible refine s_dc ?_)
local macro_rules | `(tactic| walk_at "lit") => `(tactic| exact lit_z)
/-- _law_line: 0 _law_model_here 1 _law_abc 2 _law_posts 3 _law_steps 4 _law_ends 5 _law_oks 6 _law_lines 7 _law_post 8 _law_mark 9 _law_closings -/
def t_law_line (K : PySem.W.Frag) : TS :=
  (tSeq (tAsg (tVar 0) (gLst K 5 (gCons (gName 1) (gCons (gName 2) (gCons (gName 3) (gCons (gName 4) (gCons (gName 5) gNil)))))))
  (tSeq (tAsg (tM1 (rJoin K) (tC (.str "")) (tCB (rSrt K) (tCons (tVar 1) tNil))) (gName 1))
  (tSeq (tAsg (tLst tNil) (gName 6))
  (tSeq (tFor (iList K (tVar 2)) (gName 7) (tAsg (tOp rCat (tVar 6) (tLc (iStr (tVar 1)) (gName 8) tYes (tOp (rCatA K) (tTup (tCons (tVar 7) (tCons (tVar 8) tNil))) (tDGet (tVar 3) (tTup (tCons (tVar 7) (tCons (tVar 8) tNil))))) [8])) (gName 6)))
  (tSeq (tAsg (tLc (iList K (tVar 2)) (gName 7) tYes (tOp (rCatA K) (tTup (tCons (tVar 7) tNil)) (tDGet (tVar 4) (tVar 7))) [7]) (gName 9))
  (tRet (tTup (tCons (tVar 1) (tCons (tCB (rTupOf K) (tCons (tVar 2) tNil)) (tCons (tCB (rTupOf K) (tCons (tVar 6) tNil)) (tCons (tCB (rTupOf K) (tCons (tVar 9) tNil)) (tCons (tCB (rTupOf K) (tCons (tLc (iList K (tVar 2)) (gName 7) (tTest (tOp (rIn K false) (tVar 7) (tVar 5))) (tVar 7) [7]) tNil)) tNil))))))))))))
/-- _law_loop: 0 _law_model_here 1 _law_line_here -/
def t_law_loop (K : PySem.W.Frag) : TS :=
  (tSeq (tAsg (tCall (sp_law_line K) [] E0 (tCons (tVar 0) tNil)) (gName 1))
  (tRet (tMakeK (He.ga K "Loop") 4 1 (sp_Loop_init K) (fun vs zs => selG [(0, 0), (0, 1), (0, 2), (0, 3), (0, 4), (2, 0)] vs [(.ref (He.dflAt ("Loop", some "__init__") 0 K))] [] zs) E0 (tCons (tOp (rIxT K) (tVar 1) (tC (.int 0))) (tCons (tOp (rIxT K) (tVar 1) (tC (.int 1))) (tCons (tOp (rIxT K) (tVar 1) (tC (.int 2))) (tCons (tOp (rIxT K) (tVar 1) (tC (.int 3))) tNil)))) (tCons (tOp (rIxT K) (tVar 1) (tC (.int 4))) tNil))))
/-- _law_round: 0 _law_model_here 1 _law_post 2 _law_word_here 3 _law_count 4 _law_mark 5 _law_by -/
def t_law_round (K : PySem.W.Frag) : TS :=
  (tSeq (tAsg (tC (.int 0)) (gName 3))
  (tSeq (tFor (iStr (tVar 2)) (gName 4) (tSeq (tAsg (tDGet (tOp (rIxL K) (tVar 0) (tC (.int 2))) (tTup (tCons (tVar 1) (tCons (tVar 4) tNil)))) (gTup K 2 (gCons (gName 1) (gCons (gName 5) gNil))))
  (tAsg (tOp rAddI (tVar 3) (tVar 5)) (gName 3))))
  (tSeq (tAsg (tDGet (tOp (rIxL K) (tVar 0) (tC (.int 3))) (tVar 1)) (gTup K 2 (gCons (gName 1) (gCons (gName 5) gNil))))
  (tRet (tTup (tCons (tVar 1) (tCons (tOp rAddI (tVar 3) (tVar 5)) tNil)))))))
/-- _law_run: 0 _law_model_here 1 _law_word_here 2 _law_many 3 _law_posts 4 _law_counts 5 _law_turn 6 _law_post 7 _law_count -/
def t_law_run (K : PySem.W.Frag) : TS :=
  (tSeq (tPar 3 4 (tCons (tLst (tCons (tOp (rIxL K) (tOp (rIxL K) (tVar 0) (tC (.int 1))) (tC (.int 0))) tNil)) (tCons (tLst tNil) tNil)))
  (tSeq (tFor (iRng1 (tCons (tVar 2) tNil)) (gName 5) (tSeq (tAsg (tCall (sp_law_round K) [] E0 (tCons (tVar 0) (tCons (tOp (rIxL K) (tVar 3) (tUn rNegI (tC (.int 1)))) (tCons (tVar 1) tNil)))) (gTup K 2 (gCons (gName 6) (gCons (gName 7) gNil))))
  (tSeq (tDrop (tBM K "list" rAppend (tVar 3) (tCons (tVar 6) tNil)))
  (tDrop (tBM K "list" rAppend (tVar 4) (tCons (tVar 7) tNil))))))
  (tRet (tTup (tCons (tVar 3) (tCons (tVar 4) tNil))))))
/-- _law_answers: 0 _law_model_here 1 _law_word_here 2 _law_many 3 _law_posts 4 _law_counts 5 _law_at -/
def t_law_answers (K : PySem.W.Frag) : TS :=
  (tSeq (tAsg (tCall (sp_law_run K) [] E0 (tCons (tVar 0) (tCons (tVar 1) (tCons (tVar 2) tNil)))) (gTup K 2 (gCons (gName 3) (gCons (gName 4) gNil))))
  (tRet (tCB (rTupOf K) (tCons (tLc (iRng1 (tCons (tVar 2) tNil)) (gName 5) tYes (tTup (tCons (tOp (rIxL K) (tVar 4) (tVar 5)) (tCons (tOp (rIn K false) (tOp (rIxL K) (tVar 3) (tOp rAddI (tVar 5) (tC (.int 1)))) (tOp (rIxL K) (tVar 0) (tC (.int 4)))) tNil))) [5]) tNil))))
section
variable {K : PySem.W.Frag} {vs : List V} {H H' : Hp} {Q : VK} {E : XK} {x q : Addr} {M : LM}
theorem pure_law_line (h : sp_law_line K vs H Q E) : t_law_line K (E1 Q) (start ["_law_model_here", "_law_abc", "_law_posts", "_law_steps", "_law_ends", "_law_oks", "_law_lines", "_law_post", "_law_mark", "_law_closings"] vs) H := by
  obtain ⟨q, rfl, M, ⟨po, ss, es, oo, kt, ke, h1, h2, h3, h4, h5, h6, h7⟩, m, k⟩ := h
  show t_law_line K (E1 Q) [some (.ref q), none, none, none, none, none, none, none, none, none] H
  unfold t_law_line
  have hs4 := m.g.ab.2.1
  have hs6 := m.g.st.2.1
  walk_at "go"
  refine s_srtS (by omega) fun p1 H1 np1 e1 z1 => ?_
  have hsgl : (sgn M.ab).length ≤ 4 := by rw [(sgn_perm M.ab).length_eq]; exact hs4
  refine s_join0 (SqL.of z1) (Nat.le_trans hsgl (by decide)) ?_
  show gName 1 (vS (sgn M.ab)) _ _ _
  walk_at "go"
  rename_i l0 H2 nl0 e2 z2
  have e02 := e1.trans e2
  clear e1 e2 z1 np1
  refine for_run (walk_list (xs := M.st.map vS)) (fun i σ G => ∃ l xs x7 x8, σ = [some (.ref q), some (vS (sgn M.ab)), some (.ref po), some (.ref ss), some (.ref es), some (.ref oo), some (.ref l), x7, x8, none] ∧ Ex [] H G ∧ G l = some (.lst xs) ∧ Tups K G xs ((M.st.take i).flatMap fun b => (sgn M.ab).map fun c => rwV ⟨b, c, (M.tb b c).1, (M.tb b c).2⟩)) ⟨l0, [], _, _, rfl, e02, z2, by simpa using Tups.nil⟩ (fun i σ G _ ⟨_, _, _, _, _, z, _⟩ => SqL.of (z.get0 h2)) ?_ ?_
  · rintro i x σ G G2 hi ⟨l, xs, x7, x8, rfl, e3, z3, t3⟩ ⟨rfl, hx⟩
    rw [List.length_map] at hi
    rw [List.getElem?_map, List.getElem?_eq_getElem hi] at hx
    cases hx
    have hin : M.st[i] ∈ M.st := List.getElem_mem hi
    have htk : M.st.take (i + 1) = M.st.take i ++ [M.st[i]] := by rw [List.take_add_one, List.getElem?_eq_getElem hi]; rfl
    rw [htk]
    generalize M.st[i] = b at hin
    walk_at "go"
    refine lc_tupsS (K := K) (by omega) (fun c => rwV ⟨b, c, (M.tb b c).1, (M.tb b c).2⟩) (fun c G3 C hc e4 kc => ?_) fun D G3 ys hD e4 z4 t4 => ?_
    · have hc' : c ∈ M.ab := (sgn_perm M.ab).mem_iff.mp hc
      walk_at "go"
      rename_i q1 G4 nq1 e5 z5
      refine s_dget ?_
      walk_at "go"
      rename_i q2 G5 nq2 e6 z6
      have e05 : Ex [] H G5 := (e3.trans e4).trans (e5.trans e6)
      refine s_getT (e05.get0 h3) (h4.ex0 e05) hin hc' z6 fun p hp => ?_
      refine s_catA (SqT.of (e6.get0 z5)) hp (by simp) (by simp) (by simp) fun z G6 nz e7 z7 => ?_
      exact kc _ _ ((e5.trans e6).trans e7) (SqT.of z7)
    have lx : xs.length ≤ 100 := by
      rw [t3.1]
      have : ∀ l : List (List Nat), l.length ≤ 6 → (l.flatMap fun b => (sgn M.ab).map fun c => rwV ⟨b, c, (M.tb b c).1, (M.tb b c).2⟩).length ≤ l.length * 4 := by
        intro l
        induction l with
        | nil => simp
        | cons a l ih =>
          intro h
          have := ih (by simp at h; omega)
          rw [List.flatMap_cons, List.length_append, List.length_map, List.length_cons]
          omega
      have := this (M.st.take i) (by rw [List.length_take]; omega)
      rw [List.length_take] at this
      omega
    have ly : ys.length ≤ 100 := by rw [t4.1, List.length_map]; omega
    refine s_cat (e4.get0 z3) z4 (Nat.le_trans (m := 1000) (by omega) (by decide)) fun u G4 nu e5 z5 => ?_
    walk_at "go"
    refine ⟨u, xs ++ ys, _, _, rfl, (e3.trans e4).trans e5, z5, ?_⟩
    rw [List.flatMap_append]
    refine ((t3.ex0 e4).ex0 e5).app ?_
    simpa using t4.ex0 e5
  · rintro σ G ⟨l, xs, x7, x8, rfl, e3, z3, t3⟩
    rw [List.length_map, List.take_length] at t3
    refine s_seq (s_asg (s_lc (s_iList (s_var rfl ?_))))
    refine s_iListA (xs := M.st.map vS) (SqL.of (e3.get0 h2)) ?_
    refine lc_tupsL (K := K) (SqL.of (e3.get0 h2)) (by omega) (fun b => tnV ⟨b, (M.en b).1, (M.en b).2⟩) (fun b G3 C hb e4 kc => ?_) fun D G3 ys hD e4 z4 t4 => ?_
    · walk_at "go"
      rename_i q1 G4 nq1 e5 z5
      refine s_dget ?_
      walk_at "go"
      have e04 : Ex [] H G4 := (e3.trans e4).trans e5
      refine s_getE (e04.get0 h5) (h6.ex0 e04) hb fun p hp => ?_
      refine s_catA (SqT.of z5) hp (by simp) (by simp) (by simp) fun z G6 nz e7 z7 => ?_
      exact kc _ _ (e5.trans e7) (SqT.of z7)
    refine s_gName ?_
    refine s_ret (s_tup (s_cons (s_var rfl (s_cons (s_cb (s_cons (s_var rfl (s_nil ?_))))))))
    have e04 := e3.trans e4
    refine s_tupOf (SqL.of (e04.get0 h2)) fun u1 G4 nu1 e5 z5 => ?_
    refine s_cons (s_cb (s_cons (s_var rfl (s_nil ?_))))
    refine s_tupOf (SqL.of ((e4.trans e5).get0 z3)) fun u2 G5 nu2 e6 z6 => ?_
    refine s_cons (s_cb (s_cons (s_var rfl (s_nil ?_))))
    refine s_tupOf (SqL.of ((e5.trans e6).get0 z4)) fun u3 G6 nu3 e7 z7 => ?_
    have e06 : Ex [] H G6 := e04.trans ((e5.trans e6).trans e7)
    refine s_cons (s_cb (s_cons (s_lc (s_iList (s_var rfl ?_)))))
    refine s_iListA (xs := M.st.map vS) (SqL.of (e06.get0 h2)) ?_
    refine lc_fm8 (SqL.of (e06.get0 h2)) (by omega) (fun b => decide (b ∈ M.ok)) vS (fun b G7 C1 C0 hb e8 k1 k0 => ?_) fun D2 G7 hD2 e8 z8 => ?_
    · walk_at "go"
      refine s_inL (SqL.of ((e06.trans e8).get0 h7)) ?_
      walk_at "go"
      refine s_2 (fun hb => ?_) (fun hb => ?_)
      · walk_at "go"
        exact k1 _ Ex.rfl hb
      · exact k0 _ Ex.rfl hb
    rw [m.f] at z8
    refine s_nil ?_
    refine s_tupOf (SqL.of z8) fun u4 G8 nu4 e9 z9 => ?_
    refine s_nil ?_
    refine s_alloc (by show 5 ≤ sizeLine; decide) fun p G9 np e10 z10 => ?_
    have eT : (rwsOf (srtM M)).map rwV = M.st.flatMap fun b => (sgn M.ab).map fun c => rwV ⟨b, c, (M.tb b c).1, (M.tb b c).2⟩ := by
      unfold rwsOf
      rw [List.map_flatMap]
      congr 1
      funext a
      rw [List.map_map]
      rfl
    have eU : (tnsOf (srtM M)).map tnV = M.st.map fun b => tnV ⟨b, (M.en b).1, (M.en b).2⟩ := by
      unfold tnsOf
      rw [List.map_map]
      rfl
    have e810 := e8.trans (e9.trans e10)
    refine k p G9 (e06.trans e810) ⟨u1, u2, u3, u4, SqT.of z10, SqT.of ((e6.trans (e7.trans e810)).get0 z5), ?_, ?_, SqT.of (e10.get0 z9)⟩
    · rw [eT]
      exact TupsAt.mk (SqT.of ((e7.trans e810).get0 z6)) (t3.ex0 (e4.trans (e5.trans (e6.trans (e7.trans e810)))))
    · rw [eU]
      exact TupsAt.mk (SqT.of (e810.get0 z7)) (t4.ex0 (e5.trans (e6.trans (e7.trans e810))))
theorem pure_law_loop (h : sp_law_loop K vs H Q E) : t_law_loop K (E1 Q) (start ["_law_model_here", "_law_line_here"] vs) H := by
  obtain ⟨q, rfl, M, hq, m, k⟩ := h
  show t_law_loop K (E1 Q) [some (.ref q), none] H
  unfold t_law_loop
  walk_at "go"
  refine u_line hq m fun p H1 e1 ⟨o, r, t, y, h1, h2, h3, h4, h5⟩ => ?_
  walk_at "go"
  refine s_makeK ?_
  walk_at "go"
  refine ⟨rfl, rfl, fun x dx hx hdx hne => ?_⟩
  have ex : Ex [] H1 (upd (upd H1 dx (.own x)) x (.ins (He.ga K "Loop") dx [])) := by
    refine (Ex.new hdx).trans (Ex.new ?_)
    rw [upd_ne (Ne.symm hne)]
    exact hx
  have gs := good_srt m.g
  refine ⟨x, sgn M.ab, o, r, t, y, dx, rfl, upd_same, M.st, rwsOf (srtM M), tnsOf (srtM M), M.ok, goodS_sgn m.g.ab, ex.sqT (by simp) h2, m.g.st, h3.ex0 ex, good_rws gs, h4.ex0 ex, good_tns (M := srtM M) gs, ex.sqT (by simp) h5, ⟨m.g.ok, ?_⟩, fun H2 e2 hl => ⟨rfl, ?_⟩⟩
  · rw [← m.f]
    exact m.g.st.2.2.1.sublist (List.filter_sublist)
  · refine k x H2 ?_ (LoopAt.ofRows m hl)
    exact Ex.dropN (e1.free hx) (e1.trans ex) e2
theorem pure_law_round (h : sp_law_round K vs H Q E) : t_law_round K (E1 Q) (start ["_law_model_here", "_law_post", "_law_word_here", "_law_count", "_law_mark", "_law_by"] vs) H := by
  obtain ⟨q, a, w, rfl, M, ⟨po, ss, es, oo, kt, ke, h1, h2, h3, h4, h5, h6, h7⟩, m, ha, hl, hw, k⟩ := h
  show t_law_round K (E1 Q) [some (.ref q), some (vS a), some (vS w), none, none, none] H
  unfold t_law_round
  walk_at "go"
  have wk := walk_str (z := S w)
  have hs : (S w).cps.size = w.length := by simp [S]
  rw [hs] at wk
  have g := m.g
  refine for_run wk (fun i σ H2 => ∃ x4 x5, σ = [some (.ref q), some (vS (run M a (w.take i)).1), some (vS w), some (.int (run M a (w.take i)).2), x4, x5] ∧ Ex [] H H2) ⟨_, _, rfl, Ex.rfl⟩ (fun _ _ _ _ _ => trivial) ?_ ?_
  · rintro i y σ H2 H3 hi ⟨x4, x5, rfl, e2⟩ ⟨rfl, c, hc, ev⟩
    have ev : y = vS [c] := ev
    subst ev
    have hc : w[i]? = some c := by simpa [S] using hc
    have hcw : c ∈ w := List.mem_of_getElem? hc
    have ht1 : w.take (i + 1) = w.take i ++ [c] := by rw [List.take_add_one, hc]; rfl
    have hr1 : run M a (w.take (i + 1)) = stp M (run M a (w.take i)) c := by unfold run; rw [ht1, List.foldl_append]; rfl
    have hin : (run M a (w.take i)).1 ∈ M.st := run_in g _ (a, 0) ha fun d hd => hw d (List.mem_of_mem_take hd)
    have h1' := e2.get0 h1
    walk_at "go"
    refine s_dget ?_
    walk_at "go"
    rename_i q2 H4 nq e4 h8
    have e04 := e2.trans e4
    refine s_getT (e04.get0 h3) (h4.ex0 e04) hin (hw c hcw) h8 fun p hp => ?_
    walk_at "go"
    rw [hr1]
    exact ⟨_, _, rfl, e04⟩
  · rintro σ H2 ⟨x4, x5, rfl, e2⟩
    rw [List.take_length]
    have hin : (run M a w).1 ∈ M.st := run_in g _ (a, 0) ha hw
    have h1' := e2.get0 h1
    walk_at "go"
    refine s_dget ?_
    walk_at "go"
    refine s_getE (e2.get0 h5) (h6.ex0 e2) hin fun p hp => ?_
    walk_at "go"
    rename_i q2 H4 nq e4 h8
    exact k q2 H4 (e2.trans e4) h8
theorem pure_law_run (h : sp_law_run K vs H Q E) : t_law_run K (E1 Q) (start ["_law_model_here", "_law_word_here", "_law_many", "_law_posts", "_law_counts", "_law_turn", "_law_post", "_law_count"] vs) H := by
  obtain ⟨q, w, n, rfl, M, hq, m, hw, hn, hn1, k⟩ := h
  show t_law_run K (E1 Q) [some (.ref q), some (vS w), some (.int n), none, none, none, none, none] H
  unfold t_law_run
  have hq' := hq
  obtain ⟨po, ss, es, oo, kt, ke, h1, h2, h3, h4, h5, h6, h7⟩ := hq'
  obtain ⟨b0, l0, hst⟩ : ∃ a l, M.st = a :: l := List.exists_cons_of_ne_nil (List.length_pos_iff.mp m.g.st.1)
  walk_at "go"
  refine s_ixL (v := vS (orb M w 0)) (SqL.of h2) (atI_of (by omega) (by unfold orb; rw [hst]; rfl)) ?_
  walk_at "go"
  rename_i s H1 ns e1 z1 t H2 nt e2 z2
  have hst' : s ≠ t := fun z => by rw [← z, z1] at nt; cases nt
  have hs0 : H s = none := ns
  have ht0 : H t = none := e1.free nt
  refine for_run walk_range (fun i σ G => ∃ x5 x6 x7, σ = [some (.ref q), some (vS w), some (.int n), some (.ref s), some (.ref t), x5, x6, x7] ∧ Ex [] H G ∧ G s = some (.lst ((List.range (i + 1)).map fun i => vS (orb M w i))) ∧ G t = some (.lst ((List.range i).map fun i => .int (cnt M w i)))) ⟨_, _, _, rfl, e1.trans e2, e2.get0 z1, z2⟩ (fun _ _ _ _ _ => trivial) ?_ ?_
  · rintro i x σ G G2 hi ⟨x5, x6, x7, rfl, e3, z3, z4⟩ ⟨rfl, rfl⟩
    walk_at "go"
    refine s_ixL (v := vS (orb M w i)) (SqL.of z3) (by
      unfold atI ixN
      rw [List.length_map, List.length_range]
      rw [if_neg (by decide), if_pos (by omega)]
      show ((List.range (i + 1)).map fun i => vS (orb M w i))[((-1 : Int) + ((i + 1 : Nat) : Int)).toNat]? = _
      rw [show ((-1 : Int) + ((i + 1 : Nat) : Int)).toNat = i by omega, List.getElem?_map, List.getElem?_range (by omega)]
      rfl) ?_
    walk_at "go"
    refine u_round (hq.ex0 e3) m (orb_in m.g hw.2.2 i) (by have := hw.2.1; omega) hw.2.2 fun p G3 e4 z5 => ?_
    have z3' := e4.get0 z3
    have z4' := e4.get0 z4
    walk_at "go"
    refine s_append z3' (Nat.lt_of_le_of_lt (show _ ≤ 2000 by simp; omega) (by decide)) fun G4 e5 z6 => ?_
    have z7 := e5.get (by simpa using Ne.symm hst') z4'
    walk_at "go"
    refine s_append z7 (Nat.lt_of_le_of_lt (show _ ≤ 2000 by simp; omega) (by decide)) fun G5 e6 z8 => ?_
    refine ⟨_, _, _, rfl, Ex.drop ht0 (Ex.drop hs0 (e3.trans e4) e5) e6, ?_, ?_⟩
    · rw [e6.get (by simpa using hst') z6, List.range_succ (n := i + 1), List.map_append]
      rfl
    · rw [z8, List.range_succ, List.map_append]
      rfl
  · rintro σ G ⟨x5, x6, x7, rfl, e3, z3, z4⟩
    walk_at "go"
    rename_i p G2 np e4 z5
    exact k p G2 (e3.trans e4) ⟨s, t, z5, e4.get0 z3, e4.get0 z4⟩
theorem pure_law_answers (h : sp_law_answers K vs H Q E) : t_law_answers K (E1 Q) (start ["_law_model_here", "_law_word_here", "_law_many", "_law_posts", "_law_counts", "_law_at"] vs) H := by
  obtain ⟨q, w, n, rfl, M, hq, m, hw, hn, hn1, k⟩ := h
  show t_law_answers K (E1 Q) [some (.ref q), some (vS w), some (.int n), none, none, none] H
  unfold t_law_answers
  have hq' := hq
  obtain ⟨po, ss, es, oo, kt, ke, h1, h2, h3, h4, h5, h6, h7⟩ := hq'
  walk_at "go"
  refine u_run hq m hw hn hn1 fun p s t H1 e1 z1 z2 z3 => ?_
  walk_at "go"
  refine lc_tupsR (K := K) (by omega) (fun i => [.int (cnt M w i), .bl (decide (orb M w (i + 1) ∈ M.ok))]) (fun i G C hi e2 kc => ?_) fun D G xs hD e2 z4 t4 => ?_
  · have z2' := e2.get0 z2
    have z3' := e2.get0 z3
    have h1' := e2.get0 (e1.get0 h1)
    walk_at "go"
    refine s_ixL (v := .int (cnt M w i)) (SqL.of z3') (atI_of (by omega) (by rw [show ((0 : Int) + (i : Nat)).toNat = i by omega, List.getElem?_map, List.getElem?_range (by omega)]; rfl)) ?_
    walk_at "go"
    refine s_ixL (v := vS (orb M w (i + 1))) (SqL.of z2') (atI_of (by omega) (by rw [show ((0 : Int) + (i : Nat) + 1).toNat = i + 1 by omega, List.getElem?_map, List.getElem?_range (by omega)]; rfl)) ?_
    walk_at "go"
    refine s_inL (SqL.of ((e1.trans e2).get0 h7)) ?_
    walk_at "go"
    rename_i p2 G2 np2 e3 z6
    exact kc _ _ e3 (SqT.of z6)
  walk_at "go"
  refine s_tupOf (SqL.of z4) fun u G2 hu e3 z6 => ?_
  exact k _ _ ((e1.trans e2).trans e3) (TupsAt.mk (SqT.of z6) (t4.ex0 e3))
end
end WB
namespace WB
open PySem PySem.Spec PyProof.Rows L2
section
variable {K : PySem.W.Frag} {H H' : Hp} {Q : VK} {E : XK} {a p q x : Addr} {M : LM} {σ : St}
/-! ### data -/
theorem Dd.dp : ∀ (n : Nat) (v : V) (d : PyData), Dd K H n v d → Dp K H v d
  | 0, _, _, h => Scal.dp h
  | n + 1, v, d, h => by
    rcases h with h | ⟨a, xs, ds, rfl, rfl, h1, hn, hl, h2⟩ | ⟨a, xs, ds, rfl, rfl, h1, hn, hl, h2⟩
    · exact Scal.dp h
    · exact .tup h1 (dpAll_of xs ds hl fun i x e hx he => Dd.dp n x e (h2 i x e hx he))
    · exact .lst (SqL.of h1) (dpAll_of xs ds hl fun i x e hx he => Dd.dp n x e (h2 i x e hx he))
theorem Dd.shape : ∀ (n : Nat) (v : V) (d : PyData), Dd K H n v d → PyData.canLay0 d = true ∧ PyData.depth d ≤ n
  | 0, v, d, h => by
    obtain ⟨h1, h2⟩ := scal_shape h
    exact ⟨h1, by omega⟩
  | n + 1, v, d, h => by
    have parts : ∀ (xs : List V) (ds : List PyData), ds.length = xs.length → (∀ (i : Nat) x e, xs[i]? = some x → ds[i]? = some e → Dd K H n x e) → ∀ e ∈ ds, PyData.canLay0 e = true ∧ PyData.depth e ≤ n := fun xs ds hl h e he => by
      obtain ⟨i, hi⟩ := mem_get he
      have hlt : i < xs.length := by
        have := (List.getElem?_eq_some_iff.mp hi).1
        omega
      exact Dd.shape n xs[i] e (h i xs[i] e (List.getElem?_eq_getElem hlt) hi)
    rcases h with h | ⟨a, xs, ds, rfl, rfl, h1, hn, hl, h2⟩ | ⟨a, xs, ds, rfl, rfl, h1, hn, hl, h2⟩
    · obtain ⟨h1, h2⟩ := scal_shape h
      exact ⟨h1, by omega⟩
    · have pp := parts xs ds hl h2
      refine ⟨by rw [PyData.canLay0]; exact lay_all fun e he => (pp e he).1, ?_⟩
      rw [PyData.depth]
      have := dep_all (m := n) fun e he => (pp e he).2
      omega
    · have pp := parts xs ds hl h2
      refine ⟨by rw [PyData.canLay0]; exact lay_all fun e he => (pp e he).1, ?_⟩
      rw [PyData.depth]
      have := dep_all (m := n) fun e he => (pp e he).2
      omega
theorem Dd.shaped {n : Nat} {v : V} {d : PyData} (hn : n ≤ 20) (h : Dd K H n v d) : SeqAt.shaped d = true := by
  obtain ⟨h1, h2⟩ := Dd.shape n v d h
  unfold SeqAt.shaped
  exact Bool.and_eq_true_iff.mpr ⟨h1, decide_eq_true (by omega)⟩
theorem s_neDd {n m : Nat} {u v : V} {d : PyData} (hn : n ≤ 20) (h1 : Dd K H n u d) (h2 : Dd K H m v d) (k : Q (.bl false) H) : rNeD K u v H Q := by
  have hs := Dd.shaped hn h1
  refine ⟨_, _, Dd.dp n u _ h1, Dd.dp m v _ h2, hs, hs, ?_⟩
  rw [SeqAt.eqv_refl _ (Bool.and_eq_true_iff.mp hs).1]
  exact k
theorem s_eqDd {n m : Nat} {u v : V} {d : PyData} (hn : n ≤ 20) (h1 : Dd K H n u d) (h2 : Dd K H m v d) (k : Q (.bl true) H) : rEqD K u v H Q := by
  have hs := Dd.shaped hn h1
  refine ⟨_, _, Dd.dp n u _ h1, Dd.dp m v _ h2, hs, hs, ?_⟩
  rw [SeqAt.eqv_refl _ (Bool.and_eq_true_iff.mp hs).1]
  exact k
theorem Fr.ex0 {F : Addr → Prop} {n : Nat} {v : V} {d : PyData} (e : Ex [] H H') (h : Fr F H n v d) : Fr F H' n v d := Fr.mono (fun _ h => h) (fun _ _ _ h => e.get0 h) _ _ _ h
/-- what a value without parts tells -/
def scD : V → PyData
  | .bl b => .bool b
  | .int i => .int i
  | .str s => .str s
  | _ => .none
theorem sc_int (i : Int) : Scal (.int i) (scD (.int i)) := .inr (.inr (.inl ⟨i, rfl, rfl⟩))
theorem sc_bl (b : Bool) : Scal (.bl b) (scD (.bl b)) := .inr (.inl ⟨b, rfl, rfl⟩)
theorem sc_S {l : List Nat} (h : plain l) : Scal (vS l) (scD (vS l)) := .inr (.inr (.inr ⟨l, h, rfl, rfl⟩))
theorem dd_int {n : Nat} (i : Int) : Dd K H n (.int i) (.int i) := by
  cases n with
  | zero => exact sc_int i
  | succ n => exact .inl (sc_int i)
theorem dd_scal {n : Nat} {v : V} {d : PyData} (h : Scal v d) : Dd K H n v d := by
  cases n with
  | zero => exact h
  | succ n => exact .inl h
theorem dd_tup1 {n : Nat} {l : List V} (h : SqT K H p l) (hl : l.length ≤ 1000) (hs : ∀ v ∈ l, Scal v (scD v)) : Dd K H (n + 1) (.ref p) (.tuple (l.map scD)) := by
  refine .inr (.inl ⟨p, l, _, rfl, rfl, h, hl, by simp, fun i y e h1 h2 => ?_⟩)
  rw [List.getElem?_map, h1] at h2
  cases h2
  exact dd_scal (hs y (List.mem_of_getElem? h1))
theorem dd_tups {n : Nat} {ls : List (List V)} (h : TupsAt K H p ls) (hl : ls.length ≤ 1000) (hs : ∀ l ∈ ls, l.length ≤ 1000 ∧ ∀ v ∈ l, Scal v (scD v)) : Dd K H (n + 2) (.ref p) (.tuple (ls.map fun l => .tuple (l.map scD))) := by
  obtain ⟨xs, h1, h2, h3⟩ := h
  refine .inr (.inl ⟨p, xs, _, rfl, rfl, h1, by omega, by simp [h2], fun i y e z1 z2 => ?_⟩)
  rw [List.getElem?_map] at z2
  obtain ⟨l, z3, rfl⟩ := Option.map_eq_some_iff.mp z2
  obtain ⟨r, rfl, z4⟩ := h3 i y l z1 z3
  have := hs l (List.mem_of_getElem? z3)
  exact dd_tup1 z4 this.1 this.2
theorem dd_strs {n : Nat} {ls : List (List Nat)} (h : SqT K H p (ls.map vS)) (hl : ls.length ≤ 1000) (hs : ∀ l ∈ ls, plain l) : Dd K H (n + 1) (.ref p) (.tuple ((ls.map vS).map scD)) :=
  dd_tup1 h (by simpa using hl) fun v hv => by
    obtain ⟨l, hl, rfl⟩ := List.mem_map.mp hv
    exact sc_S (hs l hl)
theorem plain_ab {s : List Nat} (h : goodS s) : plain s := fun c hc => let_plain (isWord_in h.1 c hc)
theorem plain_in {s : List Nat} {c : Nat} (h : goodS s) (hc : c ∈ s) : plain [c] := fun d hd => by rw [List.mem_singleton.mp hd]; exact plain_ab h c hc
theorem plain_st (g : GoodM M) {b : List Nat} (h : b ∈ M.st) : plain b := name_plain (g.st.2.2.2 b h)
def lrowD (M : LM) : PyData := .tuple [scD (vS M.ab), .tuple ((M.st.map vS).map scD), .tuple (((rwsOf M).map rwV).map fun l => .tuple (l.map scD)), .tuple (((tnsOf M).map tnV).map fun l => .tuple (l.map scD)), .tuple ((M.ok.map vS).map scD)]
theorem dd_row {n : Nat} (g : GoodM M) (hok : M.ok.length ≤ 1000) (h : LRowAt K H p M) : Dd K H (n + 3) (.ref p) (lrowD M) := by
  obtain ⟨o, r, t, y, h1, h2, h3, h4, h5⟩ := h
  have l6 := g.st.2.1
  have l4 := g.ab.2.1
  have d1 : Dd K H (n + 2) (vS M.ab) (scD (vS M.ab)) := dd_scal (sc_S (plain_ab g.ab))
  have d2 : Dd K H (n + 2) (.ref o) (.tuple ((M.st.map vS).map scD)) := dd_strs h2 (by omega) fun l hl => plain_st g hl
  have d3 : Dd K H (n + 2) (.ref r) (.tuple (((rwsOf M).map rwV).map fun l => .tuple (l.map scD))) := dd_tups h3 (by
      rw [List.length_map, rwsOf, rws_len]
      exact Nat.le_trans (Nat.mul_le_mul l4 l6) (by decide)) fun l hl => by
    obtain ⟨rw, hr, rfl⟩ := List.mem_map.mp hl
    obtain ⟨m1, m2, m3⟩ := mem_rws hr
    have m4 := g.tb _ m1 _ m2
    rw [m3] at m4
    refine ⟨by simp [rwV], fun v hv => ?_⟩
    simp only [rwV, List.mem_cons, List.not_mem_nil, or_false] at hv
    rcases hv with rfl | rfl | rfl | rfl
    · exact sc_S (plain_st g m1)
    · exact sc_S (plain_in g.ab m2)
    · exact sc_S (plain_st g m4)
    · exact sc_int _
  have d4 : Dd K H (n + 2) (.ref t) (.tuple (((tnsOf M).map tnV).map fun l => .tuple (l.map scD))) := dd_tups h4 (by
      rw [List.length_map, tnsOf, List.length_map]
      omega) fun l hl => by
    obtain ⟨tn, hr, rfl⟩ := List.mem_map.mp hl
    obtain ⟨b, hb, rfl⟩ := List.mem_map.mp hr
    refine ⟨by simp [tnV], fun v hv => ?_⟩
    simp only [tnV, List.mem_cons, List.not_mem_nil, or_false] at hv
    rcases hv with rfl | rfl | rfl
    · exact sc_S (plain_st g hb)
    · exact sc_S (plain_st g (g.en b hb))
    · exact sc_int _
  have d5 : Dd K H (n + 2) (.ref y) (.tuple ((M.ok.map vS).map scD)) := dd_strs h5 hok fun l hl => plain_st g (g.ok l hl)
  refine .inr (.inl ⟨p, _, _, rfl, rfl, h1, by simp, by simp, fun i y e z1 z2 => ?_⟩)
  match i, z1, z2 with
  | 0, z1, z2 => cases z1; cases z2; exact d1
  | 1, z1, z2 => cases z1; cases z2; exact d2
  | 2, z1, z2 => cases z1; cases z2; exact d3
  | 3, z1, z2 => cases z1; cases z2; exact d4
  | 4, z1, z2 => cases z1; cases z2; exact d5
  | i + 5, z1, z2 => cases z1
def ansD (M : LM) (w : List Nat) (n : Nat) : PyData := .tuple ((ansV M w n).map fun l => .tuple (l.map scD))
theorem ansV_sc {w : List Nat} {n : Nat} : ∀ l ∈ ansV M w n, l.length ≤ 1000 ∧ ∀ v ∈ l, Scal v (scD v) := fun l hl => by
  obtain ⟨i, _, rfl⟩ := List.mem_map.mp hl
  refine ⟨by simp, fun v hv => ?_⟩
  simp only [List.mem_cons, List.not_mem_nil, or_false] at hv
  rcases hv with rfl | rfl
  · exact sc_int _
  · exact sc_bl _
theorem ansV_len {w : List Nat} {n : Nat} : (ansV M w n).length = n := by simp [ansV]
theorem dd_ans {k n : Nat} {w : List Nat} (hn : n ≤ 1000) (h : TupsAt K H p (ansV M w n)) : Dd K H (k + 2) (.ref p) (ansD M w n) := dd_tups h (by rw [ansV_len]; exact hn) ansV_sc
theorem TupsAt.take {ls : List (List V)} {i : Nat} {xs : List V} (h2 : Tups K H xs ls) (h : SqT K H q (xs.take i)) : TupsAt K H q (ls.take i) := by
  refine ⟨_, h, by simp [h2.1], fun j y l h3 h4 => ?_⟩
  by_cases hj : j < i
  · rw [List.getElem?_take_of_lt hj] at h3 h4
    exact h2.2 j y l h3 h4
  · rw [List.getElem?_take_eq_none (by omega)] at h3
    cases h3
theorem ansV_take {w : List Nat} {n i : Nat} (h : i ≤ n) : (ansV M w n).take i = ansV M w i := by
  unfold ansV
  rw [← List.map_take, List.take_range, Nat.min_eq_left h]
/-! ### instances called -/
def InstG (C : Addr) (sp : Sp) (E : XK) (t : TA) (σ : St) (y : V) (H : Hp) (Q : VK) : Prop := ∃ a, y = V.ref a ∧ t σ H fun vs H2 => (∃ dx fs, H2 a = some (.ins C dx fs)) ∧ sp (V.ref a :: vs) H2 Q E
theorem s_inst {C : Addr} {sp : Sp} {tf : TE} {t : TA} (k : tf σ H fun y H1 => InstG C sp E t σ y H1 Q) : tInst C sp E tf t σ H Q := k
theorem u_inst {C : Addr} {sp : Sp} {t : TA} (k : t σ H fun vs H2 => (∃ dx fs, H2 a = some (.ins C dx fs)) ∧ sp (V.ref a :: vs) H2 Q E) : InstG C sp E t σ (.ref a) H Q := ⟨a, rfl, k⟩
theorem s_insC {B : Prop} (h : LoopAt K H x M) (k : B) : (∃ dx fs, H x = some (.ins (He.ga K "Loop") dx fs)) ∧ B := by
  obtain ⟨dx, o, tt, te, tm, kt, ke, h1, _⟩ := h
  exact ⟨⟨dx, _, h1⟩, k⟩
def InstKG (C : Addr) (n : Nat) (sp : Sp) (gV : List V → List V → List V) (E : XK) (tk : TA) (σ : St) (y : V) (H : Hp) (Q : VK) : Prop := ∃ a, y = V.ref a ∧ tk σ H fun zs H2 => (∃ dx fs, H2 a = some (.ins C dx fs)) ∧ zs.length = n ∧ sp (gV [.ref a] zs) H2 Q E
theorem s_instK {C : Addr} {n : Nat} {sp : Sp} {gV : List V → List V → List V} {tf : TE} {tk : TA} (k : tf σ H fun y H1 => InstKG C n sp gV E tk σ y H1 Q) : tInstK C n sp gV E tf tk σ H Q := k
theorem u_instK {C : Addr} {n : Nat} {sp : Sp} {gV : List V → List V → List V} {tk : TA} (k : tk σ H fun zs H2 => (∃ dx fs, H2 a = some (.ins C dx fs)) ∧ zs.length = n ∧ sp (gV [.ref a] zs) H2 Q E) : InstKG C n sp gV E tk σ (.ref a) H Q := ⟨a, rfl, k⟩
/-! ### comprehensions over lists of any values -/
theorem lc_fmG {α : Type} {b : Addr} {l : List α} {j : Nat} {tt : TT} {te : TE} (vl : α → V) (hq : SqL K H b (l.map vl)) (hn : l.length ≤ 100000) (pr : α → Bool) (val : α → V)
    (h : ∀ (x : α) (H1 : Hp) (C1 : VK) (C0 : Hp → Prop), x ∈ l → Ex [] H H1 → (∀ H2, Ex [] H1 H2 → pr x = true → C1 (val x) H2) → (∀ H2, Ex [] H1 H2 → pr x = false → C0 H2) →
      tt ((wipe σ [j]).set j (some (vl x))) H1 fun b H2 => if b = true then te ((wipe σ [j]).set j (some (vl x))) H2 C1 else C0 H2)
    (k : ∀ D H', H D = none → Ex [] H H' → H' D = some (.lst ((l.filter pr).map val)) → Q (.ref D) H') : LcW (Itl K b) (gName j) tt te [j] σ H Q := by
  refine lc_run (walk_list (xs := l.map vl)) (by rw [List.length_map]; exact hn) [] (fun _ => True) (fun i acc _ => acc = ((l.take i).filter pr).map val) (by simp) trivial (by simp) (fun _ _ _ _ _ => trivial) (fun _ _ _ _ _ _ h => h) (fun H1 e => e.sqL (by simp) hq) ?_ ?_
  · rintro i acc x H1 H2 C1 C0 hi e _ rfl ⟨rfl, hx⟩ k1 k0
    rw [List.length_map] at hi
    rw [List.getElem?_map, List.getElem?_eq_getElem hi] at hx
    cases hx
    refine ⟨wipe1 _ _ _, ?_⟩
    refine h l[i] _ C1 C0 (List.getElem_mem hi) e (fun H5 e5 hp => k1 _ H5 e5 trivial ?_) (fun H5 e5 hp => k0 H5 e5 trivial ?_)
    · rw [List.take_add_one, List.getElem?_eq_getElem hi, List.filter_append, List.map_append]
      simp [hp]
    · rw [List.take_add_one, List.getElem?_eq_getElem hi, List.filter_append, List.map_append]
      simp [hp]
  · rintro D H' ys hD e _ hd _ rfl
    rw [List.length_map, List.take_length] at hd
    exact k D H' hD e hd
theorem atI_last {α : Type} {l : List α} {v : α} (h : l[l.length - 1]? = some v) : atI l (-1) = some v := by
  have hl := (List.getElem?_eq_some_iff.mp h).1
  unfold atI ixN
  rw [if_neg (by decide), if_pos (by omega)]
  show l[((-1 : Int) + (l.length : Int)).toNat]? = _
  rw [show ((-1 : Int) + (l.length : Int)).toNat = l.length - 1 by omega]
  exact h
/-! ### the loop's own calls -/
theorem u_lcall {w : List Nat} {n : Int} (hx : LoopAt K H x M) (g : GoodM M) (hw : inAb M w) (h0 : 0 ≤ n) (h9 : n ≤ 99) (k : ∀ p H', Ex [] H H' → TupsAt K H' p (ansV M w n.toNat) → Q (.ref p) H') : sp_Loop_call K [.ref x, vS w, .int n] H Q E := ⟨x, w, n, rfl, M, hx, g, hw, h0, h9, k⟩
theorem u_lstate {w : List Nat} {n : Int} (hx : LoopAt K H x M) (g : GoodM M) (hw : inAb M w) (h0 : 0 ≤ n) (k : ∀ H', Ex [] H H' → Q (vS (orb M w n.toNat)) H') : sp_Loop_state K (.ref x :: ([vS w, .int n] ++ [])) H Q E := ⟨x, w, n, rfl, M, hx, g, hw, h0, k⟩
theorem u_lanswer {w : List Nat} {n : Int} (hx : LoopAt K H x M) (g : GoodM M) (hw : inAb M w) (h0 : 1 ≤ n) (k : ∀ p H', Ex [] H H' → H' p = some (.tup [.int (cnt M w (n.toNat - 1)), .bl (decide (orb M w n.toNat ∈ M.ok))]) → Q (.ref p) H') : sp_Loop_answer K (.ref x :: ([vS w, .int n] ++ [])) H Q E := ⟨x, w, n, rfl, M, hx, g, hw, h0, k⟩
theorem u_ltotal {w : List Nat} {n : Int} (hx : LoopAt K H x M) (g : GoodM M) (b : BndM M) (hw : inAb M w) (h0 : 0 ≤ n) (h1 : n < 2 ^ 200) (k : ∀ H', Ex [] H H' → Q (.int (tot (cnt M w) n.toNat)) H') : sp_Loop_total K (.ref x :: ([vS w, .int n] ++ [])) H Q E := ⟨x, w, n, rfl, M, hx, g, b, hw, h0, h1, k⟩
theorem u_lrow (hx : LoopAt K H x M) (g : GoodM M) (k : ∀ p H', Ex [] H H' → LRowAt K H' p M → Q (.ref p) H') : PropG (He.ga K "Loop") (sp_Loop_row K) [] E (.ref x) H Q := u_propLoop hx ⟨x, rfl, M, hx, g, k⟩
end
end WB
namespace WB
open PySem PySem.Spec PyProof.Rows L2
/-! ### rounds come again -/
section
variable {M : LM} {w : List Nat}
theorem orb_again (g : GoodM M) (hw : ∀ c ∈ w, c ∈ M.ab) : ∃ b n, b < n ∧ n ≤ 6 ∧ orb M w n = orb M w b := by
  refine Classical.byContradiction fun hno => ?_
  have hnd : ((List.range 7).map (orb M w)).Nodup := by
    refine List.pairwise_map.mpr ?_
    refine List.Pairwise.imp_of_mem (R := fun a b => a < b) (fun {a b} ha hb hab e => ?_) List.pairwise_lt_range
    have := List.mem_range.mp hb
    exact hno ⟨a, b, hab, by omega, e.symm⟩
  have := orbs_len g hw hnd
  omega
theorem orb_60 (g : GoodM M) (hw : ∀ c ∈ w, c ∈ M.ab) {i : Nat} (hi : 6 ≤ i) : orb M w (i + 60) = orb M w i := by
  obtain ⟨b, n, hb, hn, h⟩ := orb_again g hw
  have e : i = b + (i - b) := by omega
  have key : ∀ k, k * (n - b) = 60 → orb M w (i + 60) = orb M w i := fun k hk => by
    have := orb_mul hb h (i - b) k
    rw [hk, ← e] at this
    exact this
  have hp : n - b = 1 ∨ n - b = 2 ∨ n - b = 3 ∨ n - b = 4 ∨ n - b = 5 ∨ n - b = 6 := by omega
  rcases hp with hp | hp | hp | hp | hp | hp
  · exact key 60 (by rw [hp])
  · exact key 30 (by rw [hp])
  · exact key 20 (by rw [hp])
  · exact key 15 (by rw [hp])
  · exact key 12 (by rw [hp])
  · exact key 10 (by rw [hp])
theorem orb_far (g : GoodM M) (hw : ∀ c ∈ w, c ∈ M.ab) {i : Nat} (hi : 6 ≤ i) : ∀ t, orb M w (i + t * 60) = orb M w i
  | 0 => by simp
  | t + 1 => by
    rw [show i + (t + 1) * 60 = i + t * 60 + 60 by rw [Nat.succ_mul]; omega, orb_60 g hw (by omega), orb_far g hw hi t]
theorem cnt_60 (g : GoodM M) (hw : ∀ c ∈ w, c ∈ M.ab) {i : Nat} (hi : 6 ≤ i) : cnt M w (i + 60) = cnt M w i := by
  unfold cnt
  rw [orb_60 g hw hi]
theorem cnt_far (g : GoodM M) (hw : ∀ c ∈ w, c ∈ M.ab) {i : Nat} (hi : 6 ≤ i) (t : Nat) : cnt M w (i + t * 60) = cnt M w i := by
  unfold cnt
  rw [orb_far g hw hi]
theorem tot_far (g : GoodM M) (hw : ∀ c ∈ w, c ∈ M.ab) {i : Nat} (hi : 6 ≤ i) (t : Nat) : tot (cnt M w) (i + t * 60) = tot (cnt M w) i + t * (tot (cnt M w) (i + 60) - tot (cnt M w) i) := by
  have := tot_laps (f := cnt M w) (b := i) (p := 60) (fun j hj => cnt_60 g hw (by omega)) t 0
  simpa using this
end
section
variable {K : PySem.W.Frag} {H : Hp} {Q : VK} {E : XK} {x : Addr} {M : LM} {σ : St}
theorem cutV_mid {xs : List V} {n m : Int} (h0 : 0 ≤ n) (h1 : n ≤ m) : cutV xs (some n) (some m) = (xs.drop n.toNat).take (m.toNat - n.toNat) := by
  unfold cutV
  have e : ∀ k : Int, 0 ≤ k → ∀ d, HT.sIx xs.length d (some k) = min k.toNat xs.length := fun k hk d => by
    show (if k < 0 then (k + (xs.length : Int)).toNat else min k.toNat xs.length) = _
    rw [if_neg (by omega)]
  rw [e n h0, e m (by omega)]
  rcases Nat.le_total n.toNat xs.length with h | h
  · rw [Nat.min_eq_left h]
    rcases Nat.le_total m.toNat xs.length with h' | h'
    · rw [Nat.min_eq_left h']
    · rw [Nat.min_eq_right h', List.take_of_length_le (by simp), List.take_of_length_le (by simp; omega)]
  · rw [Nat.min_eq_right h, List.drop_eq_nil_of_le h, List.drop_eq_nil_of_le (Nat.le_refl _)]
    simp
theorem mid_int (f : Nat → Int) {N n m : Nat} (h : n + m ≤ N) : (((List.range N).map fun i => V.int (f i)).drop n).take m = ((List.range m).map fun i => f (n + i)).map V.int := by
  rw [drop_int _ (by omega)]
  apply List.ext_getElem
  · simp; omega
  · intro i h1 h2
    simp
def MethKG (C : Addr) (m : Str) (n : Nat) (sp : Sp) (gV : List V → List V → List V) (E : XK) (tk : TA) (σ : St) (x : V) (H1 : Hp) (Q : VK) : Prop := ∃ a dx fs, x = .ref a ∧ H1 a = some (.ins C dx fs) ∧ fs.lookup m = none ∧ tk σ H1 fun zs H2 => zs.length = n ∧ sp (gV [x] zs) H2 Q E
theorem s_methKE {C : Addr} {m : Str} {n : Nat} {sp : Sp} {gV : List V → List V → List V} {ta : TE} {tk : TA} (k : ta σ H fun x H1 => MethKG C m n sp gV E tk σ x H1 Q) : tMethK C m n sp gV E ta tk σ H Q := k
theorem u_methKLoop {m : Str} {n : Nat} {sp : Sp} {gV : List V → List V → List V} {tk : TA} (h : LoopAt K H x M) (hm : List.lookup m [(("letters" : Str), V.non), ("order", .non), ("table", .non), ("ending", .non), ("marked", .non)] = none) (k : tk σ H fun zs H2 => zs.length = n ∧ sp (gV [.ref x] zs) H2 Q E) : MethKG (He.ga K "Loop") m n sp gV E tk σ (.ref x) H Q := by
  obtain ⟨dx, o, tt, te, tm, kt, ke, h1, _⟩ := h
  refine ⟨x, dx, _, rfl, h1, ?_, k⟩
  simp only [List.lookup] at hm ⊢
  revert hm
  cases (m == ("letters" : Str)) <;> cases (m == ("order" : Str)) <;> cases (m == ("table" : Str)) <;> cases (m == ("ending" : Str)) <;> cases (m == ("marked" : Str)) <;> simp
end
end WB
namespace WB
open PySem PySem.Spec PyProof.Rows L2
/-! ### paces -/
def lowT (n : Int) (d : Nat) : Int × Int := (n / (Nat.gcd n.natAbs d : Nat), ((d / Nat.gcd n.natAbs d : Nat) : Int))
/-- the sum of the counts of sixty rounds that come again -/
def sum60 (M : LM) (w : List Nat) : Int := tot (cnt M w) 66 - tot (cnt M w) 6
def paceV (M : LM) (w : List Nat) : Int × Int := lowT (sum60 M w) 60
theorem lowT_scale {n : Int} {d k : Nat} (hk : 0 < k) (hd : 0 < d) : lowT (k * n) (k * d) = lowT n d := by
  unfold lowT
  have e : ((k : Int) * n).natAbs = k * n.natAbs := by rw [Int.natAbs_mul]; rfl
  have hg : 0 < Nat.gcd n.natAbs d := Nat.gcd_pos_of_pos_right _ hd
  rw [e, Nat.gcd_mul_left]
  refine Prod.ext ?_ ?_
  · show (k : Int) * n / ((k * Nat.gcd n.natAbs d : Nat) : Int) = n / (Nat.gcd n.natAbs d : Nat)
    push_cast
    exact Int.mul_ediv_mul_of_pos _ _ (by omega)
  · show ((k * d / (k * Nat.gcd n.natAbs d) : Nat) : Int) = ((d / Nat.gcd n.natAbs d : Nat) : Int)
    rw [Nat.mul_div_mul_left _ _ hk]
theorem lowT_mul {n : Int} {d : Nat} (hd : 0 < d) : (lowT n d).1 * d = (lowT n d).2 * n := by
  unfold lowT
  have hg : 0 < Nat.gcd n.natAbs d := Nat.gcd_pos_of_pos_right _ hd
  obtain ⟨a, ha⟩ : ((Nat.gcd n.natAbs d : Nat) : Int) ∣ n := Int.ofNat_dvd_left.mpr (Nat.gcd_dvd_left _ _)
  obtain ⟨b, hb⟩ := Nat.gcd_dvd_right n.natAbs d
  generalize hgg : Nat.gcd n.natAbs d = g at *
  show n / (g : Int) * (d : Int) = ((d / g : Nat) : Int) * n
  have h1 : n / (g : Int) = a := by rw [ha]; exact Int.mul_ediv_cancel_left _ (by omega)
  have h2 : d / g = b := by rw [hb]; exact Nat.mul_div_cancel_left _ hg
  rw [h1, h2, ha]
  conv => lhs; rw [hb]
  push_cast
  rw [Int.mul_left_comm, Int.mul_comm a, ← Int.mul_assoc, Int.mul_comm (g : Int), Int.mul_assoc]
theorem lowT_pos {n : Int} {d : Nat} (hd : 0 < d) : 1 ≤ (lowT n d).2 ∧ (lowT n d).2 ≤ d := by
  unfold lowT
  have hg : 0 < Nat.gcd n.natAbs d := Nat.gcd_pos_of_pos_right _ hd
  have h1 : 0 < d / Nat.gcd n.natAbs d := Nat.div_pos (Nat.le_of_dvd hd (Nat.gcd_dvd_right _ _)) hg
  have h2 : d / Nat.gcd n.natAbs d ≤ d := Nat.div_le_self _ _
  show 1 ≤ ((d / Nat.gcd n.natAbs d : Nat) : Int) ∧ ((d / Nat.gcd n.natAbs d : Nat) : Int) ≤ d
  omega
theorem lowT_gcd {n : Int} {d : Nat} (hd : 0 < d) : Nat.gcd (lowT n d).1.natAbs (lowT n d).2.toNat = 1 := by
  unfold lowT
  have hg : 0 < Nat.gcd n.natAbs d := Nat.gcd_pos_of_pos_right _ hd
  obtain ⟨a, ha⟩ : ((Nat.gcd n.natAbs d : Nat) : Int) ∣ n := Int.ofNat_dvd_left.mpr (Nat.gcd_dvd_left _ _)
  have e : (n / (Nat.gcd n.natAbs d : Nat)).natAbs = n.natAbs / Nat.gcd n.natAbs d := by
    have h1 : n / (Nat.gcd n.natAbs d : Nat) = a := Int.ediv_eq_of_eq_mul_right (by omega) ha
    have h2 : n.natAbs = Nat.gcd n.natAbs d * a.natAbs := by
      have := congrArg Int.natAbs ha
      rw [Int.natAbs_mul] at this
      exact this
    rw [h1, eq_comm]
    exact Nat.div_eq_of_eq_mul_right hg h2
  show Nat.gcd (n / (Nat.gcd n.natAbs d : Nat)).natAbs ((d / Nat.gcd n.natAbs d : Nat) : Int).toNat = 1
  rw [e, Int.toNat_natCast]
  exact Nat.gcd_div_gcd_div_gcd_of_pos_right hd
section
variable {M : LM} {w : List Nat}
/-- told by any round that comes again -/
theorem pace_of {b n : Nat} (hb : b < n) (hn : n ≤ 6) (h : orb M w n = orb M w b) : lowT (tot (cnt M w) n - tot (cnt M w) b) (n - b) = paceV M w := by
  have per : ∀ i, b ≤ i → cnt M w (i + (n - b)) = cnt M w i := fun i hi => by
    unfold cnt
    rw [show i + (n - b) = n + (i - b) by omega, orb_add h, show b + (i - b) = i by omega]
  have key : ∀ k, 0 < k → k * (n - b) = 60 → lowT (tot (cnt M w) n - tot (cnt M w) b) (n - b) = paceV M w := fun k hk0 hk => by
    have := tot_laps per k (6 - b)
    rw [hk, show b + (6 - b) = 6 by omega, show b + (n - b) = n by omega] at this
    unfold paceV sum60
    rw [show (6 + 60 : Nat) = 66 from rfl] at this
    rw [this, show tot (cnt M w) 6 + (k : Int) * (tot (cnt M w) n - tot (cnt M w) b) - tot (cnt M w) 6 = (k : Int) * (tot (cnt M w) n - tot (cnt M w) b) by omega, ← hk, lowT_scale hk0 (by omega)]
  have hp : n - b = 1 ∨ n - b = 2 ∨ n - b = 3 ∨ n - b = 4 ∨ n - b = 5 ∨ n - b = 6 := by omega
  rcases hp with hp | hp | hp | hp | hp | hp
  · exact key 60 (by decide) (by rw [hp])
  · exact key 30 (by decide) (by rw [hp])
  · exact key 20 (by decide) (by rw [hp])
  · exact key 15 (by decide) (by rw [hp])
  · exact key 12 (by decide) (by rw [hp])
  · exact key 10 (by decide) (by rw [hp])
theorem orb_againS (g : GoodM M) (hw : ∀ c ∈ w, c ∈ M.ab) : ∃ b n, b < n ∧ n ≤ M.st.length ∧ orb M w n = orb M w b := by
  refine Classical.byContradiction fun hno => ?_
  have hnd : ((List.range (M.st.length + 1)).map (orb M w)).Nodup := by
    refine List.pairwise_map.mpr ?_
    refine List.Pairwise.imp_of_mem (R := fun a b => a < b) (fun {a b} ha hb hab e => ?_) List.pairwise_lt_range
    have := List.mem_range.mp hb
    exact hno ⟨a, b, hab, by omega, e.symm⟩
  have := nodup_le _ M.st hnd fun a ha => by obtain ⟨i, _, rfl⟩ := List.mem_map.mp ha; exact orb_in g hw i
  rw [List.length_map, List.length_range] at this
  omega
theorem pace_le (g : GoodM M) (hw : ∀ c ∈ w, c ∈ M.ab) : 1 ≤ (paceV M w).2 ∧ (paceV M w).2 ≤ M.st.length := by
  obtain ⟨b, n, h1, h2, h3⟩ := orb_againS g hw
  have h6 := g.st.2.1
  rw [← pace_of h1 (by omega) h3]
  have := lowT_pos (n := tot (cnt M w) n - tot (cnt M w) b) (d := n - b) (by omega)
  omega
theorem pace_gcd : Nat.gcd (paceV M w).1.natAbs (paceV M w).2.toNat = 1 := lowT_gcd (by decide)
theorem pace_mul : (paceV M w).1 * 60 = (paceV M w).2 * sum60 M w := lowT_mul (n := sum60 M w) (d := 60) (by decide)
theorem win60 (g : GoodM M) (hw : ∀ c ∈ w, c ∈ M.ab) : ∀ i, tot (cnt M w) (6 + i + 60) - tot (cnt M w) (6 + i) = sum60 M w
  | 0 => rfl
  | i + 1 => by
    have h1 := win60 g hw i
    have h2 := cnt_60 g hw (i := 6 + i) (by omega)
    have h3 := tot_succ (cnt M w) (6 + i + 60)
    have h4 := tot_succ (cnt M w) (6 + i)
    rw [show 6 + (i + 1) + 60 = 6 + i + 60 + 1 by omega, show 6 + (i + 1) = 6 + i + 1 by omega, h3, h4]
    omega
theorem sum60_bnd (g : GoodM M) (bd : BndM M) (hw : inAb M w) : (sum60 M w).natAbs ≤ 60 * (601 * 2 ^ 200) := by
  have h := tot_add (cnt M w) 6 60
  have e : sum60 M w = tot (fun i => cnt M w (6 + i)) 60 := by
    unfold sum60
    rw [show (66 : Nat) = 6 + 60 from rfl, h]
    omega
  rw [e]
  exact tot_bnd (fun i => cnt_bnd g bd hw (6 + i)) 60
theorem div_bnd {n : Int} {d : Nat} : (n / (d : Int)).natAbs ≤ n.natAbs := by
  by_cases hd : d = 0
  · subst hd; simp
  · exact Int.natAbs_ediv_le_natAbs n d
theorem pace_bnd (g : GoodM M) (bd : BndM M) (hw : inAb M w) : (paceV M w).1.natAbs ≤ 60 * (601 * 2 ^ 200) := Nat.le_trans div_bnd (sum60_bnd g bd hw)
theorem pace_srt : paceV (srtM M) w = paceV M w := by unfold paceV sum60; rw [cnt_srt]
end
/-! ### promises -/
def sp_lowest_terms (K : PySem.W.Frag) : Sp := fun vs H Q _ => ∃ n d : Int, vs = [.int n, .int d] ∧ 0 < d ∧ d < 1000 ∧ ∀ p H', Ex [] H H' → H' p = some (.tup [.int (lowT n d.toNat).1, .int (lowT n d.toNat).2]) → Q (.ref p) H'
def sp_Loop_pace (K : PySem.W.Frag) : Sp := fun vs H Q _ => ∃ (x : Addr) (w : List Nat), vs = [.ref x, vS w] ∧ ∃ M : LM, LoopAt K H x M ∧ GoodM M ∧ inAb M w ∧ ∀ p H', Ex [] H H' → H' p = some (.tup [.int (paceV M w).1, .int (paceV M w).2]) → Q (.ref p) H'
theorem u_lpace {K : PySem.W.Frag} {H : Hp} {Q : VK} {E : XK} {x : Addr} {M : LM} {w : List Nat} (hx : LoopAt K H x M) (g : GoodM M) (hw : inAb M w) (k : ∀ p H', Ex [] H H' → H' p = some (.tup [.int (paceV M w).1, .int (paceV M w).2]) → Q (.ref p) H') : sp_Loop_pace K (.ref x :: ([vS w] ++ [])) H Q E := ⟨x, w, rfl, M, hx, g, hw, k⟩
end WB
namespace WB
open PySem PySem.Spec PyProof.Rows L2
local macro_rules | `(tactic| walk_at "lit") => `(tactic| first | exact lit_abc | exact lit_empty)
local macro_rules | `(tactic| walk_at "nm") => `(tactic| focus first | exact List.not_mem_nil | (simp only [List.mem_singleton]; first | assumption | (exact Ne.symm (by assumption)) | (intro hz; subst hz; simp_all; done)))
local macro_rules | `(tactic| walk_at "hp") => `(tactic| first | assumption | (apply Ex.get0 (by assumption); walk_at "hp") | (apply Ex.get (by assumption); (walk_at "nm"); (walk_at "hp")))
local macro_rules | `(tactic| walk_at "sq") => `(tactic| first | assumption | (apply SqL.of; walk_at "hp") | (apply Ex.sqL (by assumption); (walk_at "nm"); (walk_at "sq")))
local macro_rules | `(tactic| walk_at "sqt") => `(tactic| first | assumption | (apply SqT.of; walk_at "hp") | (apply Ex.sqT (by assumption); (walk_at "nm"); (walk_at "sqt")))
local macro_rules | `(tactic| walk_at "sz") => `(tactic| focus ((with_reducible refine Nat.le_trans (m := 100000) ?_ (by decide)); first | omega | (simp; done) | (simp; omega)))
local macro_rules | `(tactic| walk_at "mul") => `(tactic| first | exact Or.inr ⟨by omega, by omega⟩ | exact Or.inl ⟨by omega, by omega⟩)
local macro_rules | `(tactic| walk_at "pool") => `(tactic| first | assumption | (apply PoolAt.ex (by assumption); (walk_at "nm"); (walk_at "pool")))
local macro_rules | `(tactic| walk_at "ring") => `(tactic| first | assumption | (apply RingAt.ex (by assumption); (walk_at "nm"); (walk_at "ring")))
local macro_rules | `(tactic| walk_at "st") => `(tactic| first
  | with_reducible refine s_seq ?_
  | with_reducible refine s_asg ?_
  | with_reducible refine s_gName ?_
  | with_reducible refine s_ret ?_
  | with_reducible refine s_ifS ?_
  | with_reducible refine s_next ?_
  | with_reducible refine s_op ?_
  | ((with_reducible apply s_var); exact rfl)
  | ((with_reducible apply s_cS); (walk_at "lit"))
  | with_reducible refine s_c ?_
  | with_reducible refine s_cb ?_
  | with_reducible refine s_cons ?_
  | with_reducible refine s_nil ?_
  | with_reducible refine s_un ?_
  | with_reducible refine s_call ?_
  | with_reducible refine s_test ?_
  | with_reducible refine s_tB ?_
  | with_reducible refine s_blQ ?_
  | with_reducible refine s_not ?_
  | with_reducible refine s_and ?_
  | with_reducible refine s_or ?_
  | with_reducible refine s_andV ?_
  | with_reducible refine s_orV ?_
  | with_reducible refine s_notV ?_
  | with_reducible refine s_ifE ?_
  | with_reducible refine s_chain ?_
  | ((with_reducible refine s_T ?_ ?_); (with_reducible exact rfl))
  | with_reducible refine s_nT ?_
  | with_reducible refine s_nF ?_
  | ((with_reducible refine s_F ?_ ?_); (with_reducible exact rfl))
  | ((with_reducible refine s_T ?_ ?_); assumption)
  | ((with_reducible refine s_F ?_ ?_); assumption)
  | ((with_reducible refine s_nB ?_ ?_); assumption)
  | ((with_reducible refine s_nA ?_ ?_); assumption)
  | ((with_reducible refine s_Td ?_ ?_); omega)
  | ((with_reducible refine s_Fd ?_ ?_); omega)
  | ((with_reducible refine s_nTd ?_ ?_); omega)
  | ((with_reducible refine s_nFd ?_ ?_); omega)
  | with_reducible refine s_sfld ?_
  | with_reducible refine s_addI ?_
  | with_reducible refine s_subI ?_
  | ((with_reducible refine s_mulI ?_ ?_); (walk_at "mul"))
  | ((with_reducible refine s_divI ?_ ?_); exact ⟨by omega, by omega⟩)
  | ((with_reducible refine s_modI ?_ ?_); omega)
  | ((with_reducible refine s_powI ?_ ?_); exact ⟨by decide, by decide, by decide⟩)
  | with_reducible refine s_ltI ?_
  | with_reducible refine s_leI ?_
  | with_reducible refine s_gtI ?_
  | with_reducible refine s_geI ?_
  | with_reducible refine s_negI ?_
  | with_reducible refine s_absI ?_
  | with_reducible refine s_intI ?_
  | with_reducible refine s_min2 ?_
  | with_reducible refine s_max2 ?_
  | with_reducible refine s_eqI ?_
  | with_reducible refine s_neI ?_
  | with_reducible refine s_eqS ?_
  | with_reducible refine s_neS ?_
  | with_reducible refine s_inSg ?_
  | with_reducible refine s_notInSg ?_
  | ((with_reducible refine s_addS ?_ ?_); (walk_at "sz"))
  | ((with_reducible refine s_lenS ?_ ?_); (walk_at "sz"))
  | ((with_reducible apply s_lenL); (walk_at "sq"))
  | ((with_reducible apply s_lenT); (walk_at "sqt"))
  | ((with_reducible apply s_ixL); (walk_at "sq"); exact rfl)
  | ((with_reducible apply s_ixT); (walk_at "sqt"); exact rfl)
  | with_reducible refine s_gSub ?_
  | ((with_reducible apply s_setL); (walk_at "hp"); (exact rfl); (intro _ _ _))
  | ((with_reducible refine s_alloc ?_ ?_); (walk_at "sz"); (intro _ _ _ _ _))
  | ((with_reducible refine s_divmod ?_ ?_); (exact ⟨by omega, PyProof.noPylong_small (by omega)⟩); (intro _ _ _ _ _))
  | ((with_reducible apply s_gTup); (walk_at "sqt"); (exact rfl))
  | ((with_reducible apply s_gLst); (walk_at "sq"); (exact rfl))
  | with_reducible refine s_gCons ?_
  | with_reducible refine s_gNil ?_
  | with_reducible refine s_lc ?_
  | ((with_reducible apply s_cat); (walk_at "hp"); (walk_at "hp"); (walk_at "sz"); (intro _ _ _ _ _))
  | ((with_reducible apply s_slL); (walk_at "sq"); (intro _ _ _ _ _))
  | with_reducible refine s_for ?_
  | with_reducible refine s_rng1 ?_
  | ((with_reducible refine s_rng1i ?_ ?_); (constructor <;> omega))
  | with_reducible refine s_rng2 ?_
  | ((with_reducible refine s_rng2i ?_ ?_); (refine ⟨?_, ?_, ?_, ?_⟩ <;> omega))
  | with_reducible refine s_iStr ?_
  | with_reducible refine s_iStrS ?_
  | with_reducible refine s_iList ?_
  | ((with_reducible apply s_iListA); (walk_at "sq"))
  | with_reducible refine s_iTup ?_
  | ((with_reducible apply s_iTupA); (walk_at "sqt"))
  | with_reducible refine s_sl ?_
  | with_reducible refine s_noPart ?_
  | with_reducible refine s_part ?_
  | with_reducible refine s_int1 ?_
  | ((with_reducible refine s_slS ?_ ?_); (walk_at "sz"))
  | with_reducible refine s_tup ?_
  | with_reducible refine s_lst ?_
  | with_reducible refine s_par ?_
  | with_reducible refine s_pair ?_
  | with_reducible refine s_M1 ?_
  | with_reducible refine s_isStr ?_
  | with_reducible refine s_revS ?_
  | ((with_reducible refine s_revS1 ?_ ?_); (walk_at "sz"))
  | with_reducible refine s_fldE ?_
  | with_reducible refine s_propE ?_
  | ((with_reducible refine u_draw ?_ ?_ ?_ ?_); omega; omega; (walk_at "pool"); (intro _ _ _ _ _ _))
  | ((with_reducible refine u_pool ?_); (intro _ _ _ _ _))
  | with_reducible refine u_is_integer ?_
  | with_reducible refine s_isiII ?_
  | with_reducible refine s_isiIB ?_
  | with_reducible refine s_isiSS ?_
  | ((with_reducible apply u_fldRing); assumption; (walk_at "ring"))
  | ((with_reducible apply u_textP); (walk_at "ring"))
  | ((with_reducible apply u_strRing); (walk_at "ring"))
  | ((with_reducible apply u_eqRing); (walk_at "ring"); (walk_at "ring"))
  | ((with_reducible apply u_isiRing); assumption; (walk_at "ring"))
  | ((with_reducible refine u_is_word ?_ ?_); omega; (intro _ _))
  | ((with_reducible refine u_turnings ?_ ?_); omega; (intro _ _ _ _ _))
  | with_reducible refine s_makeE ?_
  | with_reducible refine s_methE ?_)
local macro_rules | `(tactic| walk_at "go") => `(tactic| repeat (walk_at "st"))
local macro_rules | `(tactic| walk_at "exs") => `(tactic| first | exact Ex.rfl | assumption | (apply Ex.snoc (by assumption); walk_at "exs") | (apply Ex.snocW (by assumption); walk_at "exs"))
local macro_rules | `(tactic| walk_at "kind") => `(tactic| first | assumption | (apply KindAt.ex0 (by assumption); (walk_at "kind")) | (apply KindAt.exP (by assumption) (by assumption); (walk_at "kind")))
local macro_rules | `(tactic| walk_at "st") => `(tactic| first
  | with_reducible refine s_lenSet ?_
  | with_reducible refine s_drop ?_
  | with_reducible refine s_bm ?_
  | with_reducible refine s_notN ?_
  | with_reducible refine s_isN ?_
  | ((with_reducible apply s_tyL); (walk_at "hp"))
  | with_reducible refine s_enumT ?_
  | ((with_reducible apply s_enumTA); (walk_at "sqt"))
  | with_reducible refine s_lc2 ?_)
local macro_rules | `(tactic| walk_at "lit") => `(tactic| exact lit_MRK)
local macro_rules | `(tactic| walk_at "st") => `(tactic| first
  | with_reducible refine s_dcT ?_
  | with_reducible refine s_dc ?_)
local macro_rules | `(tactic| walk_at "lit") => `(tactic| exact lit_z)
/-- lowest_terms: 0 number 1 divisor 2 high 3 low -/
def t_lowest_terms (K : PySem.W.Frag) : TS :=
  (tSeq (tPar 2 3 (tCons (tCB rAbsI (tCons (tVar 0) tNil)) (tCons (tVar 1) tNil)))
  (tSeq (tWhile (tTest (tOp rGtI (tVar 3) (tC (.int 0)))) (tPar 2 3 (tCons (tVar 3) (tCons (tOp rModI (tVar 2) (tVar 3)) tNil))))
  (tRet (tTup (tCons (tOp rDivI (tVar 0) (tVar 2)) (tCons (tOp rDivI (tVar 1) (tVar 2)) tNil))))))
/-- Loop.pace: 0 self 1 text 2 states 3 counts 4 begin -/
def t_Loop_pace (K : PySem.W.Frag) : TS :=
  (tSeq (tAsg (tMeth (He.ga K "Loop") "history" (sp_Loop_history K) [] E0 (tVar 0) (tCons (tVar 1) tNil)) (gTup K 3 (gCons (gName 2) (gCons (gName 3) (gCons (gName 4) gNil)))))
  (tRet (tCall (sp_lowest_terms K) [] E0 (tCons (tCB (rSum K) (tCons (tSl (rSlL K) (tVar 3) (tPart (tVar 4)) tNoPart) tNil)) (tCons (tOp rSubI (tCB (rLenV K) (tCons (tVar 3) tNil)) (tVar 4)) tNil)))))
section
variable {K : PySem.W.Frag} {vs : List V} {H H' : Hp} {Q : VK} {E : XK} {x : Addr} {M : LM}
theorem s_while {tt : TT} {tb : TS} {n b c : St → Hp → Prop} {rt : VK} {σ : St} (W : Nat → St → Hp → Prop) (h0 : ∃ m, W m σ H)
    (h : ∀ m σ G, W m σ G → tt σ G fun q G' => if q = true then ∃ N : St → Hp → Prop, (∀ σ' H', N σ' H' → ∃ m', m' < m ∧ W m' σ' H') ∧ tb ⟨N, rt, n, N⟩ σ G' else n σ G') : tWhile tt tb ⟨n, rt, b, c⟩ σ H := ⟨W, h0, h⟩
theorem pure_lowest_terms (h : sp_lowest_terms K vs H Q E) : t_lowest_terms K (E1 Q) (start ["number", "divisor", "high", "low"] vs) H := by
  obtain ⟨n, d, rfl, d0, d1, k⟩ := h
  show t_lowest_terms K (E1 Q) [some (.int n), some (.int d), none, none] H
  unfold t_lowest_terms
  walk_at "go"
  refine s_while (fun m σ G => G = H ∧ ∃ hi lo : Nat, m = lo ∧ σ = [some (.int n), some (.int d), some (.int (hi : Nat)), some (.int (lo : Nat))] ∧ Nat.gcd hi lo = Nat.gcd n.natAbs d.toNat ∧ lo ≤ 1000) ⟨d.toNat, rfl, n.natAbs, d.toNat, rfl, ?_, rfl, by omega⟩ ?_
  · have e1 : (if n < 0 then -n else n) = ((n.natAbs : Nat) : Int) := by split <;> omega
    have e2 : d = ((d.toNat : Nat) : Int) := by omega
    rw [e1]
    show [some (V.int n), some (.int d), some (.int (n.natAbs : Nat)), some (.int d)] = _
    rw [← e2]
  rintro m σ G ⟨rfl, hi, lo, hml, rfl, hg, hl⟩
  walk_at "go"
  by_cases h0 : (0 : Int) < (lo : Nat)
  · refine s_T (decide_eq_true h0) ?_
    refine ⟨fun σ' H' => H' = G ∧ σ' = [some (.int n), some (.int d), some (.int (lo : Nat)), some (.int ((hi % lo : Nat) : Int))], ?_, ?_⟩
    · rintro σ' H' ⟨rfl, rfl⟩
      have hm := Nat.mod_lt hi (show 0 < lo by omega)
      refine ⟨hi % lo, by omega, rfl, lo, hi % lo, rfl, rfl, ?_, by omega⟩
      rw [← hg, Nat.gcd_comm hi lo, Nat.gcd_rec lo hi, Nat.gcd_comm]
    · walk_at "go"
      refine ⟨rfl, ?_⟩
      rw [show ((hi : Int) % (lo : Int)) = ((hi % lo : Nat) : Int) by omega]
      rfl
  · refine s_F (decide_eq_false h0) ?_
    have hlo : lo = 0 := by omega
    subst hlo
    rw [Nat.gcd_zero_right] at hg
    have hp : 0 < Nat.gcd n.natAbs d.toNat := Nat.gcd_pos_of_pos_right _ (by omega)
    have hle : Nat.gcd n.natAbs d.toNat ≤ d.toNat := Nat.le_of_dvd (by omega) (Nat.gcd_dvd_right _ _)
    walk_at "go"
    rename_i p G2 np e2 h2
    refine k p G2 e2 ?_
    rw [h2]
    unfold lowT
    rw [hg]
    have e3 : d / ((Nat.gcd n.natAbs d.toNat : Nat) : Int) = ((d.toNat / Nat.gcd n.natAbs d.toNat : Nat) : Int) := by
      have hd : ((d.toNat : Nat) : Int) = d := by omega
      rw [Int.natCast_ediv, hd]
    rw [e3]
theorem pure_Loop_pace (F : LoopK K) (h : sp_Loop_pace K vs H Q E) : t_Loop_pace K (E1 Q) (start ["self", "text", "states", "counts", "begin"] vs) H := by
  obtain ⟨x, w, rfl, M, hx, g, hw, k⟩ := h
  show t_Loop_pace K (E1 Q) [some (.ref x), some (vS w), none, none, none] H
  unfold t_Loop_pace
  walk_at "go"
  refine u_methLoop hx rfl ?_
  walk_at "go"
  refine u_history hx g hw fun p q r H1 n b e1 hn hb ho h1 h2 h3 => ?_
  walk_at "go"
  rename_i sl H2 nsl e2 h4
  rw [cutV_from (by omega), show ((b : Int)).toNat = b by omega, drop_int _ (by omega)] at h4
  refine s_sum (SqL.of h4) ?_
  have h3' := e2.get0 h3
  have hdiff : ((List.range (n - b)).map fun i => cnt M w (b + i)).sum = tot (cnt M w) n - tot (cnt M w) b := by
    have := tot_add (cnt M w) b (n - b)
    rw [show b + (n - b) = n by omega] at this
    show tot (fun i => cnt M w (b + i)) (n - b) = _
    omega
  rw [hdiff]
  walk_at "go"
  rw [List.length_map, List.length_range]
  refine ⟨_, _, rfl, by omega, by omega, fun p2 H3 e3 h5 => ?_⟩
  rw [show ((n : Int) - (b : Nat)).toNat = n - b by omega, pace_of hb hn ho] at h5
  exact k p2 H3 (e1.trans (e2.trans e3)) h5
end
end WB
namespace WB
open PySem PySem.Spec PyProof.Rows L2
theorem s_par3 {n b c : St → Hp → Prop} {rt : VK} {σ : St} {H : Hp} {i j l : Nat} {ta : TA} (k : ta σ H fun vs H1 => ∃ u v w, vs = [u, v, w] ∧ n (((σ.set i (some u)).set j (some v)).set l (some w)) H1) : tPar3 i j l ta ⟨n, rt, b, c⟩ σ H := k
theorem s_trip {u v w : V} {P : V → V → V → Prop} (k : P u v w) : ∃ u' v' w', [u, v, w] = [u', v', w'] ∧ P u' v' w' := ⟨u, v, w, rfl, k⟩
abbrev sRow : List Nat := [114, 111, 119]
abbrev sTurn : List Nat := [116, 117, 114, 110]
abbrev sBegin : List Nat := [98, 101, 103, 105, 110]
/-- a change of a loop -/
inductive Chg where
  | row (a : List Nat) (c : Nat) (b : List Nat) (n : Int)
  | turn (a b : List Nat) (n : Int)
  | beg (a : List Nat)
def chV : Chg → List V
  | .row a c b n => [vS sRow, vS a, vS [c], vS b, .int n]
  | .turn a b n => [vS sTurn, vS a, vS b, .int n]
  | .beg a => [vS sBegin, vS a]
def okC (M : LM) : Chg → Prop
  | .row a c b _ => a ∈ M.st ∧ c ∈ M.ab ∧ b ∈ M.st
  | .turn a b _ => a ∈ M.st ∧ b ∈ M.st
  | .beg a => a ∈ M.st
def begS (st : List (List Nat)) (a : List Nat) : List (List Nat) := a :: st.filter fun b => !decide (b = a)
def chM (M : LM) : Chg → LM
  | .row a c b n => { M with tb := fun a' c' => if a' = a ∧ c' = c then (b, n) else M.tb a' c' }
  | .turn a b n => { M with en := fun a' => if a' = a then (b, n) else M.en a' }
  | .beg a => { M with st := begS M.st a, ok := (begS M.st a).filter fun b => decide (b ∈ M.ok) }
/-- a loop as the program makes it -/
structure GL (M : LM) : Prop where
  g : GoodM M
  f : M.st.filter (fun a => decide (a ∈ M.ok)) = M.ok
  s : sgn M.ab = M.ab
theorem GM.gl {M : LM} (m : GM M) : GL (srtM M) := ⟨good_srt m.g, m.f, sgn_idem _⟩
theorem mem_begS {st : List (List Nat)} {a : List Nat} (ha : a ∈ st) {b : List Nat} : b ∈ begS st a ↔ b ∈ st := by
  unfold begS
  constructor
  · intro h
    rcases List.mem_cons.mp h with rfl | h
    · exact ha
    · exact (List.mem_filter.mp h).1
  · intro h
    by_cases e : b = a
    · subst e; exact List.mem_cons_self
    · exact List.mem_cons_of_mem _ (List.mem_filter.mpr ⟨h, by simp [e]⟩)
theorem nodup_begS {st : List (List Nat)} {a : List Nat} (h : st.Nodup) : (begS st a).Nodup := by
  unfold begS
  refine List.nodup_cons.mpr ⟨fun z => ?_, h.sublist List.filter_sublist⟩
  have := (List.mem_filter.mp z).2
  simp at this
theorem len_begS {st : List (List Nat)} {a : List Nat} (h : st.Nodup) (ha : a ∈ st) : (begS st a).length = st.length := by
  have h1 := nodup_le _ st (nodup_begS (a := a) h) fun b hb => (mem_begS ha).mp hb
  have h2 := nodup_le _ (begS st a) h fun b hb => (mem_begS ha).mpr hb
  omega
theorem good_ch {M : LM} (g : GoodM M) : ∀ {ch : Chg}, okC M ch → GoodM (chM M ch)
  | .row a c b n, ⟨h1, h2, h3⟩ => ⟨g.ab, g.st, fun a' ha c' hc => by
      show (if a' = a ∧ c' = c then (b, n) else M.tb a' c').1 ∈ M.st
      split
      · exact h3
      · exact g.tb a' ha c' hc, g.en, g.ok⟩
  | .turn a b n, ⟨h1, h2⟩ => ⟨g.ab, g.st, g.tb, fun a' ha => by
      show (if a' = a then (b, n) else M.en a').1 ∈ M.st
      split
      · exact h2
      · exact g.en a' ha, g.ok⟩
  | .beg a, h => by
    have h : a ∈ M.st := h
    have hm : ∀ {b}, b ∈ begS M.st a ↔ b ∈ M.st := mem_begS h
    refine ⟨g.ab, ⟨?_, ?_, nodup_begS g.st.2.2.1, fun b hb => g.st.2.2.2 b (hm.mp hb)⟩, fun a' ha c' hc => hm.mpr (g.tb a' (hm.mp ha) c' hc), fun a' ha => hm.mpr (g.en a' (hm.mp ha)), fun b hb => (List.mem_filter.mp hb).1⟩
    · show 1 ≤ (begS M.st a).length
      rw [len_begS g.st.2.2.1 h]; exact g.st.1
    · show (begS M.st a).length ≤ 6
      rw [len_begS g.st.2.2.1 h]; exact g.st.2.1
theorem gl_ch {M : LM} (m : GL M) : ∀ {ch : Chg}, okC M ch → GL (chM M ch)
  | .row a c b n, h => ⟨good_ch m.g h, m.f, m.s⟩
  | .turn a b n, h => ⟨good_ch m.g h, m.f, m.s⟩
  | .beg a, h => ⟨good_ch m.g h, by
      show (begS M.st a).filter (fun b => decide (b ∈ (begS M.st a).filter fun b => decide (b ∈ M.ok))) = _
      apply List.filter_congr
      intro b hb
      simp [List.mem_filter, hb], m.s⟩
theorem bnd_ch {M : LM} (m : BndM M) : ∀ {ch : Chg}, okC M ch → (∀ a c b n, ch = .row a c b n → n.natAbs ≤ 2 ^ 200) → (∀ a b n, ch = .turn a b n → n.natAbs ≤ 2 ^ 200) → BndM (chM M ch)
  | .row a c b n, h, h1, _ => ⟨fun a' ha c' hc => by
      show (if a' = a ∧ c' = c then (b, n) else M.tb a' c').2.natAbs ≤ 2 ^ 200
      split
      · exact h1 a c b n rfl
      · exact m.1 a' ha c' hc, m.2⟩
  | .turn a b n, h, _, h1 => ⟨m.1, fun a' ha => by
      show (if a' = a then (b, n) else M.en a').2.natAbs ≤ 2 ^ 200
      split
      · exact h1 a b n rfl
      · exact m.2 a' ha⟩
  | .beg a, h, _, _ => ⟨fun a' ha c' hc => m.1 a' ((mem_begS h).mp ha) c' hc, fun a' ha => m.2 a' ((mem_begS h).mp ha)⟩
/-- what makes a class's own instances known to isinstance -/
structure LoopI (K : PySem.W.Frag) : Prop where
  ty : ∀ (H : Hp) (a dx : Addr) (fs : List (Str × V)), H a = some (.ins (He.ga K "Loop") dx fs) → TyX K H (.ref a) (.ref (He.ga K "Loop"))
  me : PySem.W.kitOne K (.ref (He.ga K "Loop")) (.ref (He.ga K "Loop")) = some true
section
variable {K : PySem.W.Frag} {H H' : Hp} {Q : VK} {E : XK} {x y c : Addr} {M M' : LM} {ch : Chg}
theorem s_catB {a b : Addr} {xs ys : List V} (h1 : SqT K H a xs) (h2 : SqT K H b ys) (hl : xs.length + ys.length ≤ 1000) (k : ∀ p H2, Ex [] H H2 → SqT K H2 p (xs ++ ys) → Q (.ref p) H2) : rCatA K (.ref a) (.ref b) H Q :=
  ⟨a, b, xs, ys, rfl, rfl, h1, h2, Nat.le_trans hl (by decide), fun e => k b H Ex.rfl (by rw [e]; exact h2), fun _ e => k a H Ex.rfl (by rw [e, List.append_nil]; exact h1), fun _ _ p hp => k p _ (Ex.new hp) (SqT.of upd_same)⟩
def sp_Loop_signs (K : PySem.W.Frag) : Sp := fun vs H Q _ => ∃ x : Addr, vs = [.ref x] ∧ ∃ M : LM, LoopAt K H x M ∧ Q (vS M.ab) H
def sp_Loop_states (K : PySem.W.Frag) : Sp := fun vs H Q _ => ∃ x : Addr, vs = [.ref x] ∧ ∃ M : LM, LoopAt K H x M ∧ ∀ o, SqT K H o (M.st.map vS) → Q (.ref o) H
def sp_is_change (K : PySem.W.Frag) : Sp := fun vs H Q _ => ∃ (x c : Addr), vs = [.ref x, .ref c] ∧ ∃ (M : LM) (ch : Chg), LoopAt K H x M ∧ SqT K H c (chV ch) ∧ okC M ch ∧ ∀ H', Ex [] H H' → Q (.bl true) H'
def sp_Loop_changed (K : PySem.W.Frag) : Sp := fun vs H Q _ => ∃ (x c : Addr), vs = [.ref x, .ref c] ∧ ∃ (M : LM) (ch : Chg), LoopAt K H x M ∧ GL M ∧ SqT K H c (chV ch) ∧ okC M ch ∧ ∀ y H', Ex [] H H' → LoopAt K H' y (chM M ch) → Q (.ref y) H'
def sp_Loop_eq (K : PySem.W.Frag) : Sp := fun vs H Q _ => ∃ (x y : Addr), vs = [.ref x, .ref y] ∧ ∃ (M M' : LM), LoopAt K H x M ∧ GL M ∧ LoopAt K H y M' ∧ GL M' ∧ lrowD M = lrowD M' ∧ ∀ H', Ex [] H H' → Q (.bl true) H'
theorem u_lsigns (hx : LoopAt K H x M) (k : Q (vS M.ab) H) : PropG (He.ga K "Loop") (sp_Loop_signs K) [] E (.ref x) H Q := u_propLoop hx ⟨x, rfl, M, hx, k⟩
theorem u_lstates (hx : LoopAt K H x M) (k : ∀ o, SqT K H o (M.st.map vS) → Q (.ref o) H) : PropG (He.ga K "Loop") (sp_Loop_states K) [] E (.ref x) H Q := u_propLoop hx ⟨x, rfl, M, hx, k⟩
theorem u_is_change (hx : LoopAt K H x M) (hc : SqT K H c (chV ch)) (hok : okC M ch) (k : ∀ H', Ex [] H H' → Q (.bl true) H') : sp_is_change K ([.ref x, .ref c] ++ []) H Q E := ⟨x, c, rfl, M, ch, hx, hc, hok, k⟩
theorem u_changed (hx : LoopAt K H x M) (g : GL M) (hc : SqT K H c (chV ch)) (hok : okC M ch) (k : ∀ y H', Ex [] H H' → LoopAt K H' y (chM M ch) → Q (.ref y) H') : sp_Loop_changed K (.ref x :: ([.ref c] ++ [])) H Q E := ⟨x, c, rfl, M, ch, hx, g, hc, hok, k⟩
theorem u_isiLoop (F : LoopI K) (hx : LoopAt K H x M) (k : Q (.bl true) H) : rIsi K [.ref x, .ref (He.ga K "Loop")] H Q := by
  obtain ⟨dx, o, tt, te, tm, kt, ke, h1, _⟩ := hx
  exact ⟨_, _, _, _, _, rfl, .own _, F.ty H x dx _ h1, F.me, k⟩
theorem u_lEq (hx : LoopAt K H x M) (g : GL M) (hy : LoopAt K H y M') (g' : GL M') (he : lrowD M = lrowD M') (k : ∀ H', Ex [] H H' → Q (.bl true) H') : rEqO (He.ga K "Loop") (sp_Loop_eq K) E (.ref x) (.ref y) H Q := by
  obtain ⟨dx, o, tt, te, tm, kt, ke, h1, _⟩ := id hx
  obtain ⟨dx', o', tt', te', tm', kt', ke', h1', _⟩ := id hy
  exact ⟨x, dx, _, y, dx', _, rfl, rfl, h1, h1', x, y, rfl, M, M', hx, g, hy, g', he, fun H' e => ⟨true, rfl, k H' e⟩⟩
end
end WB
namespace WB
open PySem PySem.Spec PyProof.Rows L2
theorem lit_114_111_119 : ("row" : Str) = S [114, 111, 119] := by decide +kernel
theorem lit_116_117_114_110 : ("turn" : Str) = S [116, 117, 114, 110] := by decide +kernel
theorem lit_98_101_103_105_110 : ("begin" : Str) = S [98, 101, 103, 105, 110] := by decide +kernel
local macro_rules | `(tactic| walk_at "lit") => `(tactic| first | exact lit_114_111_119 | exact lit_116_117_114_110 | exact lit_98_101_103_105_110)
local macro_rules | `(tactic| walk_at "lit") => `(tactic| first | exact lit_abc | exact lit_empty)
local macro_rules | `(tactic| walk_at "nm") => `(tactic| focus first | exact List.not_mem_nil | (simp only [List.mem_singleton]; first | assumption | (exact Ne.symm (by assumption)) | (intro hz; subst hz; simp_all; done)))
local macro_rules | `(tactic| walk_at "hp") => `(tactic| first | assumption | (apply Ex.get0 (by assumption); walk_at "hp") | (apply Ex.get (by assumption); (walk_at "nm"); (walk_at "hp")))
local macro_rules | `(tactic| walk_at "sq") => `(tactic| first | assumption | (apply SqL.of; walk_at "hp") | (apply Ex.sqL (by assumption); (walk_at "nm"); (walk_at "sq")))
local macro_rules | `(tactic| walk_at "sqt") => `(tactic| first | assumption | (apply SqT.of; walk_at "hp") | (apply Ex.sqT (by assumption); (walk_at "nm"); (walk_at "sqt")))
local macro_rules | `(tactic| walk_at "sz") => `(tactic| focus ((with_reducible refine Nat.le_trans (m := 100000) ?_ (by decide)); first | omega | (simp; done) | (simp; omega)))
local macro_rules | `(tactic| walk_at "mul") => `(tactic| first | exact Or.inr ⟨by omega, by omega⟩ | exact Or.inl ⟨by omega, by omega⟩)
local macro_rules | `(tactic| walk_at "pool") => `(tactic| first | assumption | (apply PoolAt.ex (by assumption); (walk_at "nm"); (walk_at "pool")))
local macro_rules | `(tactic| walk_at "ring") => `(tactic| first | assumption | (apply RingAt.ex (by assumption); (walk_at "nm"); (walk_at "ring")))
local macro_rules | `(tactic| walk_at "st") => `(tactic| first
  | with_reducible refine s_seq ?_
  | with_reducible refine s_asg ?_
  | with_reducible refine s_gName ?_
  | with_reducible refine s_ret ?_
  | with_reducible refine s_ifS ?_
  | with_reducible refine s_next ?_
  | with_reducible refine s_op ?_
  | ((with_reducible apply s_var); exact rfl)
  | ((with_reducible apply s_cS); (walk_at "lit"))
  | with_reducible refine s_c ?_
  | with_reducible refine s_cb ?_
  | with_reducible refine s_cons ?_
  | with_reducible refine s_nil ?_
  | with_reducible refine s_un ?_
  | with_reducible refine s_call ?_
  | with_reducible refine s_test ?_
  | with_reducible refine s_tB ?_
  | with_reducible refine s_blQ ?_
  | with_reducible refine s_not ?_
  | with_reducible refine s_and ?_
  | with_reducible refine s_or ?_
  | with_reducible refine s_andV ?_
  | with_reducible refine s_orV ?_
  | with_reducible refine s_notV ?_
  | with_reducible refine s_ifE ?_
  | with_reducible refine s_chain ?_
  | ((with_reducible refine s_T ?_ ?_); (with_reducible exact rfl))
  | with_reducible refine s_nT ?_
  | with_reducible refine s_nF ?_
  | ((with_reducible refine s_F ?_ ?_); (with_reducible exact rfl))
  | ((with_reducible refine s_T ?_ ?_); assumption)
  | ((with_reducible refine s_F ?_ ?_); assumption)
  | ((with_reducible refine s_nB ?_ ?_); assumption)
  | ((with_reducible refine s_nA ?_ ?_); assumption)
  | ((with_reducible refine s_Td ?_ ?_); omega)
  | ((with_reducible refine s_Fd ?_ ?_); omega)
  | ((with_reducible refine s_nTd ?_ ?_); omega)
  | ((with_reducible refine s_nFd ?_ ?_); omega)
  | with_reducible refine s_sfld ?_
  | with_reducible refine s_addI ?_
  | with_reducible refine s_subI ?_
  | ((with_reducible refine s_mulI ?_ ?_); (walk_at "mul"))
  | ((with_reducible refine s_divI ?_ ?_); exact ⟨by omega, by omega⟩)
  | ((with_reducible refine s_modI ?_ ?_); omega)
  | ((with_reducible refine s_powI ?_ ?_); exact ⟨by decide, by decide, by decide⟩)
  | with_reducible refine s_ltI ?_
  | with_reducible refine s_leI ?_
  | with_reducible refine s_gtI ?_
  | with_reducible refine s_geI ?_
  | with_reducible refine s_negI ?_
  | with_reducible refine s_absI ?_
  | with_reducible refine s_intI ?_
  | with_reducible refine s_min2 ?_
  | with_reducible refine s_max2 ?_
  | with_reducible refine s_eqI ?_
  | with_reducible refine s_neI ?_
  | with_reducible refine s_eqS ?_
  | with_reducible refine s_neS ?_
  | with_reducible refine s_inSg ?_
  | with_reducible refine s_notInSg ?_
  | ((with_reducible refine s_addS ?_ ?_); (walk_at "sz"))
  | ((with_reducible refine s_lenS ?_ ?_); (walk_at "sz"))
  | ((with_reducible apply s_lenL); (walk_at "sq"))
  | ((with_reducible apply s_lenT); (walk_at "sqt"))
  | ((with_reducible apply s_ixL); (walk_at "sq"); exact rfl)
  | ((with_reducible apply s_ixT); (walk_at "sqt"); exact rfl)
  | with_reducible refine s_gSub ?_
  | ((with_reducible apply s_setL); (walk_at "hp"); (exact rfl); (intro _ _ _))
  | ((with_reducible refine s_alloc ?_ ?_); (walk_at "sz"); (intro _ _ _ _ _))
  | ((with_reducible refine s_divmod ?_ ?_); (exact ⟨by omega, PyProof.noPylong_small (by omega)⟩); (intro _ _ _ _ _))
  | ((with_reducible apply s_gTup); (walk_at "sqt"); (exact rfl))
  | ((with_reducible apply s_gLst); (walk_at "sq"); (exact rfl))
  | with_reducible refine s_gCons ?_
  | with_reducible refine s_gNil ?_
  | with_reducible refine s_lc ?_
  | ((with_reducible apply s_cat); (walk_at "hp"); (walk_at "hp"); (walk_at "sz"); (intro _ _ _ _ _))
  | ((with_reducible apply s_slL); (walk_at "sq"); (intro _ _ _ _ _))
  | with_reducible refine s_for ?_
  | with_reducible refine s_rng1 ?_
  | ((with_reducible refine s_rng1i ?_ ?_); (constructor <;> omega))
  | with_reducible refine s_rng2 ?_
  | ((with_reducible refine s_rng2i ?_ ?_); (refine ⟨?_, ?_, ?_, ?_⟩ <;> omega))
  | with_reducible refine s_iStr ?_
  | with_reducible refine s_iStrS ?_
  | with_reducible refine s_iList ?_
  | ((with_reducible apply s_iListA); (walk_at "sq"))
  | with_reducible refine s_iTup ?_
  | ((with_reducible apply s_iTupA); (walk_at "sqt"))
  | with_reducible refine s_sl ?_
  | with_reducible refine s_noPart ?_
  | with_reducible refine s_part ?_
  | with_reducible refine s_int1 ?_
  | ((with_reducible refine s_slS ?_ ?_); (walk_at "sz"))
  | with_reducible refine s_tup ?_
  | with_reducible refine s_lst ?_
  | with_reducible refine s_par ?_
  | with_reducible refine s_pair ?_
  | with_reducible refine s_M1 ?_
  | with_reducible refine s_isStr ?_
  | with_reducible refine s_revS ?_
  | ((with_reducible refine s_revS1 ?_ ?_); (walk_at "sz"))
  | with_reducible refine s_fldE ?_
  | with_reducible refine s_propE ?_
  | ((with_reducible refine u_draw ?_ ?_ ?_ ?_); omega; omega; (walk_at "pool"); (intro _ _ _ _ _ _))
  | ((with_reducible refine u_pool ?_); (intro _ _ _ _ _))
  | with_reducible refine u_is_integer ?_
  | with_reducible refine s_isiII ?_
  | with_reducible refine s_isiIB ?_
  | with_reducible refine s_isiSS ?_
  | ((with_reducible apply u_fldRing); assumption; (walk_at "ring"))
  | ((with_reducible apply u_textP); (walk_at "ring"))
  | ((with_reducible apply u_strRing); (walk_at "ring"))
  | ((with_reducible apply u_eqRing); (walk_at "ring"); (walk_at "ring"))
  | ((with_reducible apply u_isiRing); assumption; (walk_at "ring"))
  | ((with_reducible refine u_is_word ?_ ?_); omega; (intro _ _))
  | ((with_reducible refine u_turnings ?_ ?_); omega; (intro _ _ _ _ _))
  | with_reducible refine s_makeE ?_
  | with_reducible refine s_methE ?_)
local macro_rules | `(tactic| walk_at "go") => `(tactic| repeat (walk_at "st"))
local macro_rules | `(tactic| walk_at "exs") => `(tactic| first | exact Ex.rfl | assumption | (apply Ex.snoc (by assumption); walk_at "exs") | (apply Ex.snocW (by assumption); walk_at "exs"))
local macro_rules | `(tactic| walk_at "kind") => `(tactic| first | assumption | (apply KindAt.ex0 (by assumption); (walk_at "kind")) | (apply KindAt.exP (by assumption) (by assumption); (walk_at "kind")))
local macro_rules | `(tactic| walk_at "st") => `(tactic| first
  | with_reducible refine s_lenSet ?_
  | with_reducible refine s_drop ?_
  | with_reducible refine s_bm ?_
  | with_reducible refine s_notN ?_
  | with_reducible refine s_isN ?_
  | ((with_reducible apply s_tyL); (walk_at "hp"))
  | with_reducible refine s_enumT ?_
  | ((with_reducible apply s_enumTA); (walk_at "sqt"))
  | with_reducible refine s_lc2 ?_)
local macro_rules | `(tactic| walk_at "lit") => `(tactic| exact lit_MRK)
local macro_rules | `(tactic| walk_at "st") => `(tactic| first
  | with_reducible refine s_dcT ?_
  | with_reducible refine s_dc ?_)
local macro_rules | `(tactic| walk_at "lit") => `(tactic| exact lit_z)
/-- Loop.signs: 0 self -/
def t_Loop_signs (K : PySem.W.Frag) : TS :=
  (tRet (tFld K (tVar 0) "letters"))
/-- Loop.states: 0 self -/
def t_Loop_states (K : PySem.W.Frag) : TS :=
  (tRet (tFld K (tVar 0) "order"))
/-- is_change: 0 loop 1 change -/
def t_is_change (K : PySem.W.Frag) : TS :=
  (tSeq (tIfS (tAnd (tB (tCall (sp_is_row K) [] E0 (tCons (tVar 1) (tCons (tC (.int 5)) tNil)))) (tTest (tOp rEq (tOp (rIxT K) (tVar 1) (tC (.int 0))) (tC (.str "row"))))) (tRet (tCall (sp_is_step K) [] E0 (tCons (tSl (rSlA K) (tVar 1) (tPart (tC (.int 1))) tNoPart) (tCons (tProp (He.ga K "Loop") (sp_Loop_signs K) [] E0 (tVar 0)) (tCons (tProp (He.ga K "Loop") (sp_Loop_states K) [] E0 (tVar 0)) tNil))))) tNext)
  (tSeq (tIfS (tAnd (tB (tCall (sp_is_row K) [] E0 (tCons (tVar 1) (tCons (tC (.int 4)) tNil)))) (tTest (tOp rEq (tOp (rIxT K) (tVar 1) (tC (.int 0))) (tC (.str "turn"))))) (tRet (tCall (sp_is_turn K) [] E0 (tCons (tSl (rSlA K) (tVar 1) (tPart (tC (.int 1))) tNoPart) (tCons (tProp (He.ga K "Loop") (sp_Loop_states K) [] E0 (tVar 0)) tNil)))) tNext)
  (tRet (tAndV (tCall (sp_is_row K) [] E0 (tCons (tVar 1) (tCons (tC (.int 2)) tNil))) (tAndV (tOp rEq (tOp (rIxT K) (tVar 1) (tC (.int 0))) (tC (.str "begin"))) (tOp (rIn K false) (tOp (rIxT K) (tVar 1) (tC (.int 1))) (tProp (He.ga K "Loop") (sp_Loop_states K) [] E0 (tVar 0))))))))
/-- Loop.changed: 0 self 1 change 2 states 3 rows 4 turns 5 row 6 turn 7 state -/
def t_Loop_changed (K : PySem.W.Frag) : TS :=
  (tSeq (tIfS (tNot (tB (tCall (sp_is_change K) [] E0 (tCons (tVar 0) (tCons (tVar 1) tNil))))) tNever tNext)
  (tSeq (tPar3 2 3 4 (tCons (tFld K (tVar 0) "order") (tCons (tProp (He.ga K "Loop") (sp_Loop_rows K) [] E0 (tVar 0)) (tCons (tProp (He.ga K "Loop") (sp_Loop_turns K) [] E0 (tVar 0)) tNil))))
  (tSeq (tIfS (tTest (tOp rEq (tOp (rIxT K) (tVar 1) (tC (.int 0))) (tC (.str "row")))) (tAsg (tCB (rTupOf K) (tCons (tLc (iTup K (tVar 3)) (gName 5) tYes (tIf (tTest (tOp (rEqD K) (tSl (rSlA K) (tVar 5) tNoPart (tPart (tC (.int 2)))) (tSl (rSlA K) (tVar 1) (tPart (tC (.int 1))) (tPart (tC (.int 3)))))) (tSl (rSlA K) (tVar 1) (tPart (tC (.int 1))) tNoPart) (tVar 5)) [5]) tNil)) (gName 3)) (tIfS (tTest (tOp rEq (tOp (rIxT K) (tVar 1) (tC (.int 0))) (tC (.str "turn")))) (tAsg (tCB (rTupOf K) (tCons (tLc (iTup K (tVar 4)) (gName 6) tYes (tIf (tTest (tOp rEq (tOp (rIxT K) (tVar 6) (tC (.int 0))) (tOp (rIxT K) (tVar 1) (tC (.int 1))))) (tSl (rSlA K) (tVar 1) (tPart (tC (.int 1))) tNoPart) (tVar 6)) [6]) tNil)) (gName 4)) (tAsg (tOp (rCatA K) (tSl (rSlA K) (tVar 1) (tPart (tC (.int 1))) tNoPart) (tCB (rTupOf K) (tCons (tLc (iTup K (tVar 2)) (gName 7) (tTest (tOp rNe (tVar 7) (tOp (rIxT K) (tVar 1) (tC (.int 1))))) (tVar 7) [7]) tNil))) (gName 2))))
  (tRet (tMakeK (He.ga K "Loop") 4 1 (sp_Loop_init K) (fun vs zs => selG [(0, 0), (0, 1), (0, 2), (0, 3), (0, 4), (2, 0)] vs [(.ref (He.dflAt ("Loop", some "__init__") 0 K))] [] zs) E0 (tCons (tFld K (tVar 0) "letters") (tCons (tVar 2) (tCons (tVar 3) (tCons (tVar 4) tNil)))) (tCons (tFld K (tVar 0) "marked") tNil))))))
/-- Loop.__eq__: 0 self 1 other -/
def t_Loop_eq (K : PySem.W.Frag) : TS :=
  (tRet (tAndV (tCB (rIsi K) (tCons (tVar 1) (tCons (tC (.ref (He.ga K "Loop"))) tNil))) (tOp (rEqD K) (tProp (He.ga K "Loop") (sp_Loop_row K) [] E0 (tVar 0)) (tProp (He.ga K "Loop") (sp_Loop_row K) [] E0 (tVar 1)))))
section
variable {K : PySem.W.Frag} {vs : List V} {H H' : Hp} {Q : VK} {E : XK} {x : Addr} {M : LM}
theorem pure_Loop_signs (F : LoopK K) (h : sp_Loop_signs K vs H Q E) : t_Loop_signs K (E1 Q) (start ["self"] vs) H := by
  obtain ⟨x, rfl, M, hx, k⟩ := h
  show t_Loop_signs K (E1 Q) [some (.ref x)] H
  unfold t_Loop_signs
  walk_at "go"
  exact u_fLetters F hx k
theorem pure_Loop_states (F : LoopK K) (h : sp_Loop_states K vs H Q E) : t_Loop_states K (E1 Q) (start ["self"] vs) H := by
  obtain ⟨x, rfl, M, hx, k⟩ := h
  show t_Loop_states K (E1 Q) [some (.ref x)] H
  unfold t_Loop_states
  walk_at "go"
  exact u_fOrder F hx k
theorem cut_tail {y : V} {xs : List V} : cutV (y :: xs) (some 1) none = xs := by rw [cutV_from (by decide)]; rfl
theorem pure_is_change (h : sp_is_change K vs H Q E) : t_is_change K (E1 Q) (start ["loop", "change"] vs) H := by
  obtain ⟨x, c, rfl, M, ch, hx, hc, hok, k⟩ := h
  show t_is_change K (E1 Q) [some (.ref x), some (.ref c)] H
  unfold t_is_change
  cases ch with
  | row a s b n =>
    obtain ⟨h1, h2, h3⟩ := hok
    walk_at "go"
    refine u_row hc ?_
    walk_at "go"
    refine s_T rfl ?_
    walk_at "go"
    refine s_T (by decide) ?_
    walk_at "go"
    refine s_slA hc fun q H1 e1 s1 => ?_
    rw [show cutV (chV (.row a s b n)) (some 1) none = [vS a, vS [s], vS b, .int n] from cut_tail] at s1
    walk_at "go"
    refine u_lsigns (hx.ex0 e1) ?_
    walk_at "go"
    refine u_lstates (hx.ex0 e1) fun o ho => ?_
    walk_at "go"
    refine u_is_step (r := ⟨a, s, b, n⟩) s1 ho h1 h2 h3 fun H2 e2 => ?_
    exact k _ (e1.trans e2)
  | turn a b n =>
    obtain ⟨h1, h2⟩ := hok
    walk_at "go"
    refine u_row hc ?_
    walk_at "go"
    refine s_F rfl ?_
    walk_at "go"
    refine u_row hc ?_
    walk_at "go"
    refine s_T rfl ?_
    walk_at "go"
    refine s_T (by decide) ?_
    walk_at "go"
    refine s_slA hc fun q H1 e1 s1 => ?_
    rw [show cutV (chV (.turn a b n)) (some 1) none = [vS a, vS b, .int n] from cut_tail] at s1
    walk_at "go"
    refine u_lstates (hx.ex0 e1) fun o ho => ?_
    walk_at "go"
    refine u_is_turn (r := ⟨a, b, n⟩) s1 ho h1 h2 fun H2 e2 => ?_
    exact k _ (e1.trans e2)
  | beg a =>
    have hok : a ∈ M.st := hok
    walk_at "go"
    refine u_row hc ?_
    walk_at "go"
    refine s_F rfl ?_
    walk_at "go"
    refine u_row hc ?_
    walk_at "go"
    refine s_F rfl ?_
    walk_at "go"
    refine u_row hc ?_
    walk_at "go"
    refine s_T rfl ?_
    walk_at "go"
    refine s_T (by decide) ?_
    walk_at "go"
    refine u_lstates hx fun o ho => ?_
    walk_at "go"
    refine s_inT ho ?_
    rw [decide_eq_true hok]
    exact k _ Ex.rfl
theorem u_lrows (hx : LoopAt K H x M) (g : GoodM M) (k : ∀ p H', Ex [] H H' → TupsAt K H' p ((rwsOf M).map rwV) → Q (.ref p) H') : PropG (He.ga K "Loop") (sp_Loop_rows K) [] E (.ref x) H Q := u_propLoop hx ⟨x, rfl, M, hx, g, k⟩
theorem u_lturns (hx : LoopAt K H x M) (g : GoodM M) (k : ∀ p H', Ex [] H H' → TupsAt K H' p ((tnsOf M).map tnV) → Q (.ref p) H') : PropG (He.ga K "Loop") (sp_Loop_turns K) [] E (.ref x) H Q := u_propLoop hx ⟨x, rfl, M, hx, g, k⟩
/-- over a tuple of tuples: each becomes another tuple -/
theorem lc_tupsU {α : Type} {b : Addr} {j : Nat} {te : TE} {σ : St} {l : List α} (h0 : α → List V) (f : α → List V) (hq : TupsAt K H b (l.map h0)) (hn : l.length ≤ 1000)
    (h : ∀ a p H1 (C : VK), a ∈ l → Ex [] H H1 → SqT K H1 p (h0 a) → (∀ p H2, Ex [] H1 H2 → SqT K H2 p (f a) → C (.ref p) H2) → te ((wipe σ [j]).set j (some (.ref p))) H1 C)
    (k : ∀ D H' xs, H D = none → Ex [] H H' → H' D = some (.lst xs) → Tups K H' xs (l.map f) → Q (.ref D) H') : LcW (Itt K b) (gName j) tYes te [j] σ H Q := by
  obtain ⟨xs, z1, z2, z3⟩ := hq
  rw [List.length_map] at z2
  refine lc_tups (K := K) (l := xs.zip l) (walk_tup (xs := xs)) (by simp [z2]) (by omega) Prod.fst (fun z => f z.2) (fun i H1 x H2 hi hy => ⟨hy.1, ?_⟩) (fun H1 e => e.sqT (by simp) z1) (fun z H1 C hz e kc => ?_) (fun D H' ys hD e hd t => k D H' ys hD e hd ?_)
  · have hx := hy.2
    exact ⟨(x, l[i]), by rw [List.getElem?_zip_eq_some]; exact ⟨hx, List.getElem?_eq_getElem (by omega)⟩, rfl⟩
  · obtain ⟨v, a⟩ := z
    obtain ⟨i, hi⟩ := mem_get hz
    obtain ⟨h1, h2⟩ := List.getElem?_zip_eq_some.mp hi
    obtain ⟨p, rfl, hp⟩ := z3 i v (h0 a) h1 (by rw [List.getElem?_map, h2]; rfl)
    exact h a p H1 C (List.mem_of_getElem? h2) e (e.sqT (by simp) hp) kc
  · have : (xs.zip l).map (fun z => f z.2) = l.map f := by
      rw [show (fun z : V × α => f z.2) = f ∘ Prod.snd from rfl, ← List.map_map, List.map_snd_zip (by omega)]
    rw [← this]
    exact t
theorem mk_loop {M' : LM} {o r t y : Addr} {st : List (List Nat)} {rs : List Rw} {ts : List Tn} {ys : List (List Nat)} {s : List Nat} (hs : goodS s) (ho : SqT K H o (st.map vS)) (hst : goodSt st) (hr : TupsAt K H r (rs.map rwV)) (hrs : goodRws s st rs) (ht : TupsAt K H t (ts.map tnV)) (hts : goodTns st ts) (hy : SqT K H y (ys.map vS)) (hys : goodYes st ys)
    (q1 : M'.ab = sgn s) (q2 : M'.st = st) (q3 : ∀ a ∈ st, ∀ c ∈ sgn s, M'.tb a c = tbOf rs a c) (q4 : ∀ a ∈ st, M'.en a = enOf ts a) (q5 : M'.ok = st.filter fun a => decide (a ∈ ys)) (k : ∀ x H', Ex [] H H' → LoopAt K H' x M' → Q (.ref x) H') :
    MakeKG (He.ga K "Loop") 4 1 (sp_Loop_init K) (fun vs zs => selG [(0, 0), (0, 1), (0, 2), (0, 3), (0, 4), (2, 0)] vs [(.ref (He.dflAt ("Loop", some "__init__") 0 K))] [] zs) E [vS s, .ref o, .ref r, .ref t] [.ref y] H Q := by
  refine ⟨rfl, rfl, fun x dx hx hdx hne => ?_⟩
  have ex : Ex [] H (upd (upd H dx (.own x)) x (.ins (He.ga K "Loop") dx [])) := by
    refine (Ex.new hdx).trans (Ex.new ?_)
    rw [upd_ne (Ne.symm hne)]
    exact hx
  refine ⟨x, s, o, r, t, y, dx, rfl, upd_same, st, rs, ts, ys, hs, ex.sqT (by simp) ho, hst, hr.ex0 ex, hrs, ht.ex0 ex, hts, ex.sqT (by simp) hy, hys, fun H2 e2 hl => ⟨rfl, ?_⟩⟩
  refine k x H2 (Ex.dropN hx ex e2) ?_
  exact LoopAt.same (M := mkLM s st rs ts ys) q1 q2 q3 q4 q5 hl
theorem rws_row {a b : List Nat} {c : Nat} {n : Int} : rwsOf (chM M (.row a c b n)) = (rwsOf M).map fun r => if r.a = a ∧ r.c = c then ⟨a, c, b, n⟩ else r := by
  unfold rwsOf
  rw [List.map_flatMap]
  show M.st.flatMap _ = M.st.flatMap _
  congr 1
  funext a'
  rw [List.map_map]
  apply List.map_congr_left
  intro c' _
  show (⟨a', c', (if a' = a ∧ c' = c then (b, n) else M.tb a' c').1, (if a' = a ∧ c' = c then (b, n) else M.tb a' c').2⟩ : Rw) = if a' = a ∧ c' = c then _ else _
  by_cases h : a' = a ∧ c' = c
  · rw [if_pos h, if_pos h, h.1, h.2]
  · rw [if_neg h, if_neg h]
theorem tns_turn {a b : List Nat} {n : Int} : tnsOf (chM M (.turn a b n)) = (tnsOf M).map fun t => if t.a = a then ⟨a, b, n⟩ else t := by
  unfold tnsOf
  rw [List.map_map]
  show M.st.map _ = M.st.map _
  apply List.map_congr_left
  intro a' _
  show (⟨a', (if a' = a then (b, n) else M.en a').1, (if a' = a then (b, n) else M.en a').2⟩ : Tn) = if a' = a then _ else _
  by_cases h : a' = a
  · rw [if_pos h, if_pos h, h]
  · rw [if_neg h, if_neg h]
theorem rws_len4 (g : GoodM M) : (rwsOf M).length ≤ 24 := by
  unfold rwsOf
  rw [rws_len]
  exact Nat.mul_le_mul g.ab.2.1 g.st.2.1
theorem goodRws_mem {s : List Nat} {st st' : List (List Nat)} {rs : List Rw} (h : goodRws s st rs) (hm : ∀ b, b ∈ st → b ∈ st') (hl : st'.length = st.length) : goodRws s st' rs := ⟨fun r hr => ⟨hm _ (h.1 r hr).1, (h.1 r hr).2.1, hm _ (h.1 r hr).2.2⟩, h.2.1, by rw [hl]; exact h.2.2⟩
theorem pure_Loop_changed (F : LoopK K) (h : sp_Loop_changed K vs H Q E) : t_Loop_changed K (E1 Q) (start ["self", "change", "states", "rows", "turns", "row", "turn", "state"] vs) H := by
  obtain ⟨x, c, rfl, M, ch, hx, gl, hc, hok, k⟩ := h
  show t_Loop_changed K (E1 Q) [some (.ref x), some (.ref c), none, none, none, none, none, none] H
  unfold t_Loop_changed
  have g := gl.g
  have g' := good_ch g hok
  have l6 := g.st.2.1
  walk_at "go"
  refine u_is_change hx hc hok fun H1 e1 => ?_
  walk_at "go"
  refine s_par3 ?_
  walk_at "go"
  refine u_fOrder F (hx.ex0 e1) fun o ho => ?_
  walk_at "go"
  refine u_lrows (hx.ex0 e1) g fun r H2 e2 hr => ?_
  walk_at "go"
  refine u_lturns ((hx.ex0 e1).ex0 e2) g fun t H4 e3 ht => ?_
  walk_at "go"
  refine s_trip ?_
  have e14 := e2.trans e3
  have e04 := e1.trans e14
  have hx4 := hx.ex0 e04
  have hc4 := e04.sqT (by simp) hc
  have ho4 := e14.sqT (by simp) ho
  have hr4 := hr.ex0 e3
  have ht4 := ht
  have hys : goodYes M.st M.ok := ⟨g.ok, by rw [← gl.f]; exact g.st.2.2.1.sublist List.filter_sublist⟩
  clear e1 e2 e3 e14 hc ho hr ht
  cases ch with
  | row a s b n =>
    walk_at "go"
    refine s_T (by decide) ?_
    walk_at "go"
    obtain ⟨xs0, hxs0, _⟩ := id hr4
    refine s_iTupA hxs0 ?_
    refine lc_tupsU rwV (fun r => rwV (if r.a = a ∧ r.c = s then ⟨a, s, b, n⟩ else r)) hr4 (by have := rws_len4 g; omega) (fun r p G C hrm eG hp kc => ?_) fun D H5 xs hD e5 h5 t5 => ?_
    · walk_at "go"
      refine s_slA hp fun q1 G1 e1 s1 => ?_
      walk_at "go"
      refine s_slA ((eG.trans e1).sqT (by simp) hc4) fun q2 G2 e2 s2 => ?_
      rw [show cutV (rwV r) none (some 2) = [r.a, [r.c]].map vS by rw [cutV_to (by decide)]; rfl] at s1
      rw [show cutV (chV (.row a s b n)) (some 1) (some 3) = [a, [s]].map vS by rw [cutV_mid (by decide) (by decide)]; rfl] at s2
      obtain ⟨m1, m2, m3⟩ := mem_rws hrm
      have pl : ∀ l ∈ [r.a, [r.c]], plain l := fun l hl => by
        simp only [List.mem_cons, List.not_mem_nil, or_false] at hl
        rcases hl with rfl | rfl
        · exact plain_st g m1
        · exact plain_in g.ab m2
      have pl2 : ∀ l ∈ [a, [s]], plain l := fun l hl => by
        simp only [List.mem_cons, List.not_mem_nil, or_false] at hl
        rcases hl with rfl | rfl
        · exact plain_st g hok.1
        · exact plain_in g.ab hok.2.1
      refine s_eqT1 (e2.sqT (by simp) s1) s2 pl pl2 ?_
      walk_at "go"
      by_cases hm : r.a = a ∧ r.c = s
      · refine s_T (decide_eq_true (by rw [hm.1, hm.2])) ?_
        walk_at "go"
        refine s_slA ((eG.trans (e1.trans e2)).sqT (by simp) hc4) fun q3 G3 e3 s3 => ?_
        rw [show cutV (chV (.row a s b n)) (some 1) none = rwV ⟨a, s, b, n⟩ from cut_tail] at s3
        refine kc q3 G3 (e1.trans (e2.trans e3)) ?_
        rw [if_pos hm]
        exact s3
      · refine s_F (decide_eq_false (fun z => hm ⟨(List.cons.inj z).1, by have := (List.cons.inj (List.cons.inj z).2).1; simpa using this⟩)) ?_
        walk_at "go"
        refine kc p G2 (e1.trans e2) ?_
        rw [if_neg hm]
        exact (e1.trans e2).sqT (by simp) hp
    walk_at "go"
    refine s_tupOf (SqL.of h5) fun u H6 hu e6 h6 => ?_
    have e46 := e5.trans e6
    have hx6 := hx4.ex0 e46
    walk_at "go"
    refine s_makeK ?_
    walk_at "go"
    refine u_fLetters F hx6 ?_
    walk_at "go"
    refine u_fMarked F hx6 fun tm htm => ?_
    walk_at "go"
    have trs : TupsAt K H6 u ((rwsOf (chM M (.row a s b n))).map rwV) := by
      rw [rws_row, List.map_map]
      exact TupsAt.mk (SqT.of h6) (t5.ex0 e6)
    refine mk_loop (M' := chM M (.row a s b n)) (rs := rwsOf (chM M (.row a s b n))) (ts := tnsOf M) g.ab (e46.sqT (by simp) ho4) g.st trs (good_rws g') (ht4.ex0 e46) (good_tns g) htm hys gl.s.symm rfl (fun a' ha c' hc => ?_) (fun a' ha => (en_tns a' ha).symm) gl.f.symm fun y H7 e7 hy => ?_
    · rw [gl.s] at hc
      exact (tb_rws (M := chM M (.row a s b n)) a' ha c' hc).symm
    · exact k y H7 (e04.trans (e46.trans e7)) hy
  | turn a b n =>
    walk_at "go"
    refine s_F (by decide) ?_
    walk_at "go"
    refine s_T (by decide) ?_
    walk_at "go"
    obtain ⟨xs0, hxs0, _⟩ := id ht4
    refine s_iTupA hxs0 ?_
    refine lc_tupsU tnV (fun r => tnV (if r.a = a then ⟨a, b, n⟩ else r)) ht4 (by unfold tnsOf; rw [List.length_map]; omega) (fun r p G C hrm eG hp kc => ?_) fun D H5 xs hD e5 h5 t5 => ?_
    · have hcG := eG.sqT (by simp) hc4
      walk_at "go"
      by_cases hm : r.a = a
      · refine s_T (decide_eq_true hm) ?_
        walk_at "go"
        refine s_slA hcG fun q3 G3 e3 s3 => ?_
        rw [show cutV (chV (.turn a b n)) (some 1) none = tnV ⟨a, b, n⟩ from cut_tail] at s3
        refine kc q3 G3 e3 ?_
        rw [if_pos hm]
        exact s3
      · refine s_F (decide_eq_false hm) ?_
        walk_at "go"
        refine kc p G Ex.rfl ?_
        rw [if_neg hm]
        exact hp
    walk_at "go"
    refine s_tupOf (SqL.of h5) fun u H6 hu e6 h6 => ?_
    have e46 := e5.trans e6
    have hx6 := hx4.ex0 e46
    walk_at "go"
    refine s_makeK ?_
    walk_at "go"
    refine u_fLetters F hx6 ?_
    walk_at "go"
    refine u_fMarked F hx6 fun tm htm => ?_
    walk_at "go"
    have trs : TupsAt K H6 u ((tnsOf (chM M (.turn a b n))).map tnV) := by
      rw [tns_turn, List.map_map]
      exact TupsAt.mk (SqT.of h6) (t5.ex0 e6)
    refine mk_loop (M' := chM M (.turn a b n)) (rs := rwsOf M) (ts := tnsOf (chM M (.turn a b n))) g.ab (e46.sqT (by simp) ho4) g.st (hr4.ex0 e46) (good_rws g) trs (good_tns g') htm hys gl.s.symm rfl (fun a' ha c' hc => ?_) (fun a' ha => (en_tns (M := chM M (.turn a b n)) a' ha).symm) gl.f.symm fun y H7 e7 hy => ?_
    · rw [gl.s] at hc
      exact (tb_rws (M := M) a' ha c' hc).symm
    · exact k y H7 (e04.trans (e46.trans e7)) hy
  | beg a =>
    have hok : a ∈ M.st := hok
    walk_at "go"
    refine s_F (by decide) ?_
    walk_at "go"
    refine s_F (by decide) ?_
    walk_at "go"
    refine s_slA hc4 fun q1 H5 e5 s5 => ?_
    rw [show cutV (chV (.beg a)) (some 1) none = [vS a] from cut_tail] at s5
    have hc5 := e5.sqT (by simp) hc4
    have ho5 := e5.sqT (by simp) ho4
    walk_at "go"
    refine lc_fmT ho5 (by omega) (fun b => !decide (b = a)) vS (fun b G C1 C0 hb eG k1 k0 => ?_) fun D H6 hD e6 h6 => ?_
    · have hcG := eG.sqT (by simp) hc5
      walk_at "go"
      refine s_2 (fun hb => ?_) (fun hb => ?_)
      · walk_at "go"
        exact k1 _ Ex.rfl hb
      · exact k0 _ Ex.rfl hb
    walk_at "go"
    refine s_tupOf (SqL.of h6) fun u H7 hu e7 h7 => ?_
    have lf : (M.st.filter fun b => !decide (b = a)).length ≤ 6 := Nat.le_trans (List.length_filter_le _ _) l6
    refine s_catB ((e6.trans e7).sqT (by simp) s5) (SqT.of h7) (by simp only [List.length_cons, List.length_nil, List.length_map]; omega) fun st' H8 e8 s8 => ?_
    have s8 : SqT K H8 st' ((begS M.st a).map vS) := s8
    have e48 := e5.trans (e6.trans (e7.trans e8))
    have hx8 := hx4.ex0 e48
    walk_at "go"
    refine s_makeK ?_
    walk_at "go"
    refine u_fLetters F hx8 ?_
    walk_at "go"
    refine u_fMarked F hx8 fun tm htm => ?_
    walk_at "go"
    have hm : ∀ b, b ∈ M.st → b ∈ begS M.st a := fun b hb => (mem_begS hok).mpr hb
    have gt := good_tns g
    refine mk_loop (M' := chM M (.beg a)) (rs := rwsOf M) (ts := tnsOf M) g.ab s8 g'.st (hr4.ex0 e48) (goodRws_mem (good_rws g) hm (len_begS g.st.2.2.1 hok)) (ht4.ex0 e48) ⟨fun t ht => ⟨hm _ (gt.1 t ht).1, hm _ (gt.1 t ht).2⟩, gt.2⟩ htm ⟨fun y hy => hm _ (hys.1 y hy), hys.2⟩ gl.s.symm rfl (fun a' ha c' hc => ?_) (fun a' ha => (en_tns a' ((mem_begS hok).mp ha)).symm) rfl fun y H9 e9 hy => ?_
    · rw [gl.s] at hc
      exact (tb_rws (M := M) a' ((mem_begS hok).mp ha) c' hc).symm
    · exact k y H9 (e04.trans (e48.trans e9)) hy
theorem ok_len (gl : GL M) : M.ok.length ≤ 1000 := by
  rw [← gl.f]
  have h6 := gl.g.st.2.1
  exact Nat.le_trans (List.length_filter_le _ _) (by omega)
theorem pure_Loop_eq (F : LoopI K) (h : sp_Loop_eq K vs H Q E) : t_Loop_eq K (E1 Q) (start ["self", "other"] vs) H := by
  obtain ⟨x, y, rfl, M, M', hx, g, hy, g', he, k⟩ := h
  show t_Loop_eq K (E1 Q) [some (.ref x), some (.ref y)] H
  unfold t_Loop_eq
  walk_at "go"
  refine u_isiLoop F hy ?_
  walk_at "go"
  refine u_lrow hx g.g fun p H1 e1 r1 => ?_
  walk_at "go"
  refine u_lrow (hy.ex0 e1) g'.g fun p2 H2 e2 r2 => ?_
  refine s_eqDd (n := 3) (m := 3) (d := lrowD M) (by decide) (dd_row (n := 0) g.g (ok_len g) (r1.ex0 e2)) ?_ ?_
  · rw [he]
    exact dd_row (n := 0) g'.g (ok_len g') r2
  · exact k _ (e1.trans e2)
end
end WB
namespace WB
open PySem PySem.Spec PyProof.Rows L2
/-! ### loops without turns -/
def bareM (M : LM) : LM := { srtM M with en := fun a => (a, 0) }
def NoTurn (M : LM) : Prop := M.en = fun a => (a, 0)
section
variable {M : LM} {u v w : List Nat}
theorem run_off (a : List Nat) (n : Int) : ∀ w : List Nat, w.foldl (stp M) (a, n) = ((run M a w).1, n + (run M a w).2) := by
  intro w
  induction w generalizing a n with
  | nil => simp [run]
  | cons c w ih =>
    have h1 : (c :: w).foldl (stp M) (a, n) = w.foldl (stp M) ((M.tb a c).1, n + (M.tb a c).2) := rfl
    have h2 : run M a (c :: w) = w.foldl (stp M) ((M.tb a c).1, 0 + (M.tb a c).2) := rfl
    rw [h1, h2, ih, ih]
    refine Prod.ext rfl ?_
    show n + (M.tb a c).2 + (run M (M.tb a c).1 w).2 = n + (0 + (M.tb a c).2 + (run M (M.tb a c).1 w).2)
    omega
theorem run_app (a : List Nat) : run M a (u ++ v) = ((run M (run M a u).1 v).1, (run M a u).2 + (run M (run M a u).1 v).2) := by
  have : run M a (u ++ v) = v.foldl (stp M) (run M a u) := by unfold run; rw [List.foldl_append]
  rw [this]
  exact run_off (run M a u).1 (run M a u).2 v
theorem rnd_no (h : NoTurn M) (a : List Nat) : rnd M a w = run M a w := by
  unfold rnd
  rw [h]
  exact Prod.ext rfl (by show (run M a w).2 + 0 = _; omega)
theorem run_rep (h : NoTurn M) (m : Nat) : ∀ t, run M (orb M w m) (rep t w) = (orb M w (m + t), tot (fun j => cnt M w (m + j)) t)
  | 0 => rfl
  | t + 1 => by
    rw [show rep (t + 1) w = rep t w ++ w by rw [rep_comm, rep_succ], run_app, run_rep h m t, tot_succ]
    have e : rnd M (orb M w (m + t)) w = run M (orb M w (m + t)) w := rnd_no h _
    refine Prod.ext ?_ ?_
    · show (run M (orb M w (m + t)) w).1 = (rnd M (orb M w (m + t)) w).1
      rw [e]
    · show tot (fun j => cnt M w (m + j)) t + (run M (orb M w (m + t)) w).2 = tot (fun j => cnt M w (m + j)) t + (rnd M (orb M w (m + t)) w).2
      rw [e]
theorem orb_rep (h : NoTurn M) (t : Nat) : ∀ i, orb M (rep t w) i = orb M w (t * i)
  | 0 => rfl
  | i + 1 => by
    show (rnd M (orb M (rep t w) i) (rep t w)).1 = _
    rw [orb_rep h t i, rnd_no h, run_rep h]
    rw [Nat.mul_succ]
theorem cnt_rep (h : NoTurn M) (t i : Nat) : cnt M (rep t w) i = tot (fun j => cnt M w (t * i + j)) t := by
  unfold cnt
  rw [orb_rep h, rnd_no h, run_rep h]
  rfl
theorem tot_rep (h : NoTurn M) (t : Nat) : ∀ n, tot (cnt M (rep t w)) n = tot (cnt M w) (t * n)
  | 0 => rfl
  | n + 1 => by rw [tot_succ, tot_rep h t n, Nat.mul_succ, tot_add, cnt_rep h]
theorem sum_rep (h : NoTurn M) (g : GoodM M) (hw : ∀ c ∈ w, c ∈ M.ab) {t : Nat} (ht : 1 ≤ t) : sum60 M (rep t w) = t * sum60 M w := by
  have h1 : sum60 M (rep t w) = tot (cnt M w) (t * 66) - tot (cnt M w) (t * 6) := by unfold sum60; rw [tot_rep h, tot_rep h]
  have h2 := tot_far g hw (i := t * 6) (by omega) t
  have h3 := win60 g hw (t * 6 - 6)
  rw [show 6 + (t * 6 - 6) = t * 6 by omega] at h3
  rw [h1, show t * 66 = t * 6 + t * 60 by omega, h2, h3]
  omega
theorem pace_rep (h : NoTurn M) (g : GoodM M) (hw : ∀ c ∈ w, c ∈ M.ab) {t : Nat} (ht : 1 ≤ t) : (paceV M (rep t w)).1 * (paceV M w).2 = t * (paceV M w).1 * (paceV M (rep t w)).2 := by
  have h1 := pace_mul (M := M) (w := rep t w)
  have h2 := pace_mul (M := M) (w := w)
  rw [sum_rep h g hw ht] at h1
  generalize (paceV M (rep t w)).1 = A at *
  generalize (paceV M (rep t w)).2 = B at *
  generalize (paceV M w).1 = C at *
  generalize (paceV M w).2 = D at *
  generalize sum60 M w = S at *
  have e1 : A * D * 60 = t * C * B * 60 := by
    have a1 : A * D * 60 = A * 60 * D := by rw [Int.mul_assoc, Int.mul_comm D, ← Int.mul_assoc]
    have a2 : (t : Int) * C * B * 60 = t * B * (C * 60) := by
      rw [Int.mul_assoc, Int.mul_assoc, Int.mul_assoc, Int.mul_left_comm C, ]
    rw [a1, a2, h1, h2]
    rw [Int.mul_assoc B, Int.mul_assoc (t : Int), Int.mul_comm S, Int.mul_left_comm B]
    rw [Int.mul_assoc]
  omega
end
/-! ### the default of turns -/
def dfl0 (K : PySem.W.Frag) : Addr := He.dflAt ("Loop", some "__init__") 0 K
def Dfl0 (K : PySem.W.Frag) : Prop := ∀ H : Hp, SqT K H (He.dflAt ("Loop", some "__init__") 0 K) []
def sp_law_bare (K : PySem.W.Frag) : Sp := fun vs H Q _ => ∃ q : Addr, vs = [.ref q] ∧ ∃ M : LM, MAt K H q M ∧ GM M ∧ ∀ x H', Ex [] H H' → LoopAt K H' x (bareM M) → Q (.ref x) H'
theorem bare_no (M : LM) : NoTurn (bareM M) := rfl
theorem bare_gl {M : LM} (m : GM M) : GL (bareM M) := by
  have g := m.gl
  exact ⟨⟨g.g.ab, g.g.st, g.g.tb, fun a ha => ha, g.g.ok⟩, g.f, g.s⟩
theorem bare_bnd {M : LM} (m : GM M) : BndM (bareM M) := ⟨(bnd_srt m.b).1, fun a ha => by show (0 : Int).natAbs ≤ 2 ^ 200; decide⟩
end WB
namespace WB
open PySem PySem.Spec PyProof.Rows L2
/-! ### the second family of laws: purses -/
theorem lit_s : ("s" : Str) = S [115] := by decide +kernel
def rStrI : List V → Hp → VK → Prop := fun xs H Q => ∃ i : Int, xs = [.int i] ∧ i.natAbs.log2 < 1920 ∧ Q (.str (toString i)) H
theorem cr_strI {X : Cx} : CallR X (.type "str") rStrI := call_str_int
theorem str_small : ∀ j : Nat, j < 10 → (Str.ofString (toString ((j : Nat) : Int))) = S [48 + j]
  | 0, _ => by decide +kernel
  | 1, _ => by decide +kernel
  | 2, _ => by decide +kernel
  | 3, _ => by decide +kernel
  | 4, _ => by decide +kernel
  | 5, _ => by decide +kernel
  | 6, _ => by decide +kernel
  | 7, _ => by decide +kernel
  | 8, _ => by decide +kernel
  | 9, _ => by decide +kernel
  | j + 10, h => absurd h (by omega)
/-- a drawn loop: states by numbers -/
structure MD where
  n : Nat
  s : List Nat
  nm : List (List Nat)
  T : Nat → Nat → Nat × Int
  En : Nat → Nat × Int
  ys : List Nat
structure GoodMD (D : MD) : Prop where
  n1 : 1 ≤ D.n
  n6 : D.n ≤ 6
  s : goodS D.s
  srt : sgn D.s = D.s
  nm : goodSt D.nm
  len : D.nm.length = D.n
  T : ∀ i, i < D.n → ∀ c ∈ D.s, (D.T i c).1 < D.n ∧ (D.T i c).2.natAbs ≤ 2 ^ 200
  En : ∀ i, i < D.n → (D.En i).1 < D.n ∧ (D.En i).2.natAbs ≤ 2 ^ 200
  ys : D.ys.Nodup ∧ ∀ y ∈ D.ys, y < D.n
def kI (i : Nat) : Key := .inl (i : Int)
/-- the steps by state and sign -/
def StepsOk (K : PySem.W.Frag) (H : Hp) (kt : List (List Key × V)) (D : MD) : Prop := ∀ i, i < D.n → ∀ c ∈ D.s, ∃ p, valV kt [kI i, kS [c]] = some (.ref p) ∧ SqT K H p [.int ((D.T i c).1 : Nat), .int (D.T i c).2]
def EndsOk (K : PySem.W.Frag) (H : Hp) (ee : Addr) (D : MD) : Prop := ∃ xs, H ee = some (.lst xs) ∧ Tups K H xs ((List.range D.n).map fun i => [V.int ((D.En i).1 : Nat), .int (D.En i).2])
abbrev sSigns : List Nat := [115, 105, 103, 110, 115]
abbrev sSteps : List Nat := [115, 116, 101, 112, 115]
abbrev sEnds : List Nat := [101, 110, 100, 115]
abbrev sYes : List Nat := [121, 101, 115]
abbrev sNames : List Nat := [110, 97, 109, 101, 115]
def MDAt (K : PySem.W.Frag) (H : Hp) (q : Addr) (D : MD) : Prop := ∃ kvs ss ee yy nn kt, H q = some (.dK kvs) ∧ kvs.length ≤ 100 ∧ valV kvs (kS sSigns) = some (vS D.s) ∧ valV kvs (kS sSteps) = some (.ref ss) ∧ valV kvs (kS sEnds) = some (.ref ee) ∧ valV kvs (kS sYes) = some (.ref yy) ∧ valV kvs (kS sNames) = some (.ref nn) ∧
  H ss = some (.dT kt) ∧ StepsOk K H kt D ∧ EndsOk K H ee D ∧ H yy = some (.lst (D.ys.map fun y => V.int (y : Nat))) ∧ H nn = some (.lst (D.nm.map vS))
/-- its rows, turns, yes states -/
def rowsD (D : MD) : List Rw := (List.range D.n).flatMap fun i => D.s.map fun c => ⟨D.nm.getD i [], c, D.nm.getD (D.T i c).1 [], (D.T i c).2⟩
def turnsD (D : MD) : List Tn := (List.range D.n).map fun i => ⟨D.nm.getD i [], D.nm.getD (D.En i).1 [], (D.En i).2⟩
def yesD (D : MD) : List (List Nat) := D.ys.map fun y => D.nm.getD y []
def loopD (D : MD) : LM := mkLM D.s D.nm (rowsD D) (turnsD D) (yesD D)
section
variable {D : MD}
theorem nm_get (g : GoodMD D) {i : Nat} (hi : i < D.n) : D.nm[i]? = some (D.nm.getD i []) := by
  have h : i < D.nm.length := by rw [g.len]; exact hi
  rw [List.getD_eq_getElem?_getD, List.getElem?_eq_getElem h]
  rfl
theorem nm_in (g : GoodMD D) {i : Nat} (hi : i < D.n) : D.nm.getD i [] ∈ D.nm := List.mem_of_getElem? (nm_get g hi)
theorem nm_inj (g : GoodMD D) {i j : Nat} (hi : i < D.n) (hj : j < D.n) (e : D.nm.getD i [] = D.nm.getD j []) : i = j := by
  have h1 := nm_get g hi
  have h2 := nm_get g hj
  rw [e, ← h2] at h1
  exact (List.getElem?_inj (by rw [g.len]; exact hi) g.nm.2.2.1).mp h1
theorem nm_all (g : GoodMD D) {a : List Nat} (ha : a ∈ D.nm) : ∃ i, i < D.n ∧ D.nm.getD i [] = a := by
  obtain ⟨i, hi⟩ := mem_get ha
  have h : i < D.nm.length := (List.getElem?_eq_some_iff.mp hi).1
  rw [g.len] at h
  refine ⟨i, h, ?_⟩
  have := nm_get g h
  rw [hi] at this
  exact (Option.some.inj this).symm
theorem names_map (g : GoodMD D) : (List.range D.n).map (fun i => D.nm.getD i []) = D.nm := by
  apply List.ext_getElem?
  intro i
  by_cases h : i < D.n
  · rw [List.getElem?_map, List.getElem?_range h, nm_get g h]
    rfl
  · rw [List.getElem?_eq_none (by simp; omega), List.getElem?_eq_none (by rw [g.len]; omega)]
theorem rowsD_good (g : GoodMD D) : goodRws D.s D.nm (rowsD D) := by
  refine ⟨fun r hr => ?_, ?_, ?_⟩
  · obtain ⟨i, hi, hr⟩ := List.mem_flatMap.mp hr
    obtain ⟨c, hc, rfl⟩ := List.mem_map.mp hr
    have hi := List.mem_range.mp hi
    exact ⟨nm_in g hi, hc, nm_in g (g.T i hi c hc).1⟩
  · have h := pairs_nodup g.s.2.2 g.nm.2.2.1
    have e : (rowsD D).map (fun r => (r.a, r.c)) = D.nm.flatMap fun a => D.s.map fun c => (a, c) := by
      conv => rhs; rw [← names_map g]
      unfold rowsD
      rw [List.map_flatMap, List.flatMap_map]
      congr 1
      funext i
      rw [List.map_map]
      rfl
    rw [e]
    exact h
  · have : ∀ l : List Nat, (l.flatMap fun i => D.s.map fun c => (⟨D.nm.getD i [], c, D.nm.getD (D.T i c).1 [], (D.T i c).2⟩ : Rw)).length = D.s.length * l.length := by
      intro l
      induction l with
      | nil => simp
      | cons a l ih => rw [List.flatMap_cons, List.length_append, ih, List.length_map, List.length_cons, Nat.mul_succ, Nat.add_comm]
    unfold rowsD
    rw [this, List.length_range, g.len]
theorem turnsD_good (g : GoodMD D) : goodTns D.nm (turnsD D) := by
  refine ⟨fun t ht => ?_, ?_⟩
  · obtain ⟨i, hi, rfl⟩ := List.mem_map.mp ht
    have hi := List.mem_range.mp hi
    exact ⟨nm_in g hi, nm_in g (g.En i hi).1⟩
  · unfold turnsD
    rw [List.map_map]
    have : ((fun t : Tn => t.a) ∘ fun i => (⟨D.nm.getD i [], D.nm.getD (D.En i).1 [], (D.En i).2⟩ : Tn)) = fun i => D.nm.getD i [] := rfl
    rw [this, names_map g]
    exact g.nm.2.2.1
theorem yesD_good (g : GoodMD D) : goodYes D.nm (yesD D) := by
  refine ⟨fun y hy => ?_, ?_⟩
  · obtain ⟨i, hi, rfl⟩ := List.mem_map.mp hy
    exact nm_in g (g.ys.2 i hi)
  · refine List.pairwise_map.mpr (List.Pairwise.imp_of_mem (fun {a b} ha hb hab e => ?_) g.ys.1)
    exact hab (nm_inj g (g.ys.2 a ha) (g.ys.2 b hb) e)
end
/-- a loop made of good parts is good -/
theorem mk_good {s : List Nat} {st : List (List Nat)} {rs : List Rw} {ts : List Tn} {ys : List (List Nat)} (hs : goodS s) (hst : goodSt st) (hr : goodRws s st rs) (ht : goodTns st ts) : GoodM (mkLM s st rs ts ys) := by
  refine ⟨goodS_sgn hs, hst, fun a ha c hc => ?_, fun a ha => ?_, fun a ha => (List.mem_filter.mp ha).1⟩
  · show (tbOf rs a c).1 ∈ st
    unfold tbOf
    cases h : rs.find? fun r => decide (r.a = a ∧ r.c = c) with
    | none => exact ha
    | some r => exact (hr.1 r (List.mem_of_find?_eq_some h)).2.2
  · show (enOf ts a).1 ∈ st
    unfold enOf
    cases h : ts.find? fun t => decide (t.a = a) with
    | none => exact ha
    | some t => exact (ht.1 t (List.mem_of_find?_eq_some h)).2
theorem mk_bnd {s : List Nat} {st : List (List Nat)} {rs : List Rw} {ts : List Tn} {ys : List (List Nat)} (hr : ∀ r ∈ rs, r.n.natAbs ≤ 2 ^ 200) (ht : ∀ t ∈ ts, t.n.natAbs ≤ 2 ^ 200) : BndM (mkLM s st rs ts ys) := by
  refine ⟨fun a ha c hc => ?_, fun a ha => ?_⟩
  · show (tbOf rs a c).2.natAbs ≤ _
    unfold tbOf
    cases h : rs.find? fun r => decide (r.a = a ∧ r.c = c) with
    | none => show (0 : Int).natAbs ≤ _; decide
    | some r => exact hr r (List.mem_of_find?_eq_some h)
  · show (enOf ts a).2.natAbs ≤ _
    unfold enOf
    cases h : ts.find? fun t => decide (t.a = a) with
    | none => show (0 : Int).natAbs ≤ _; decide
    | some t => exact ht t (List.mem_of_find?_eq_some h)
theorem loopD_good {D : MD} (g : GoodMD D) : GoodM (loopD D) := mk_good g.s g.nm (rowsD_good g) (turnsD_good g)
theorem loopD_bnd {D : MD} (g : GoodMD D) : BndM (loopD D) := by
  refine mk_bnd (fun r hr => ?_) (fun t ht => ?_)
  · obtain ⟨i, hi, hr⟩ := List.mem_flatMap.mp hr
    obtain ⟨c, hc, rfl⟩ := List.mem_map.mp hr
    exact (g.T i (List.mem_range.mp hi) c hc).2
  · obtain ⟨i, hi, rfl⟩ := List.mem_map.mp ht
    exact (g.En i (List.mem_range.mp hi)).2
/-! ### promises -/
def sp_lawP_purse (K : PySem.W.Frag) : Sp := fun vs H Q _ => ∃ (a : Addr) (ns : List Int) (k : Int), vs = [.ref a, .int k] ∧ SqL K H a (ns.map V.int) ∧ ns.length ≤ 63 ∧ 0 ≤ k ∧ k < 1000 ∧ ∀ p H', H p = none → Ex [] H H' → PoolAt H' p → Q (.ref p) H'
def sp_lawP_pick (K : PySem.W.Frag) : Sp := fun vs H Q _ => ∃ (a : Addr) (m : Int), vs = [.ref a, .int m] ∧ 0 < m ∧ m < 1000000 ∧ PoolAt H a ∧ ∀ (r : Int) (H' : Hp), 0 ≤ r → r < m → Ex [a] H H' → PoolAt H' a → Q (.int r) H'
def sp_lawP_names (K : PySem.W.Frag) : Sp := fun vs H Q _ => ∃ (a : Addr) (m : Int), vs = [.ref a, .int m] ∧ 1 ≤ m ∧ m ≤ 6 ∧ PoolAt H a ∧ ∀ (st : List (List Nat)) (p : Addr) (H' : Hp), goodSt st → (st.length : Int) = m → H p = none → Ex [a] H H' → PoolAt H' a → H' p = some (.lst (st.map vS)) → Q (.ref p) H'
def sp_lawP_signs (K : PySem.W.Frag) : Sp := fun vs H Q _ => ∃ (a : Addr) (m : Int), vs = [.ref a, .int m] ∧ 1 ≤ m ∧ m ≤ 4 ∧ PoolAt H a ∧ ∀ (s : List Nat) (H' : Hp), goodS s → sgn s = s → (s.length : Int) = m → Ex [a] H H' → PoolAt H' a → Q (vS s) H'
def sp_lawP_amount (K : PySem.W.Frag) : Sp := fun vs H Q _ => ∃ (a : Addr) (g : Bool), vs = [.ref a, .bl g] ∧ PoolAt H a ∧ ∀ (r : Int) (H' : Hp), r.natAbs ≤ 2 ^ 200 → Ex [a] H H' → PoolAt H' a → Q (.int r) H'
def sp_lawP_model (K : PySem.W.Frag) : Sp := fun vs H Q _ => ∃ (a : Addr) (n : Int) (s : List Nat) (g : Bool), vs = [.ref a, .int n, vS s, .bl g] ∧ goodS s ∧ sgn s = s ∧ 1 ≤ n ∧ n ≤ 6 ∧ PoolAt H a ∧ ∀ (q : Addr) (D : MD) (H' : Hp), GoodMD D → (D.n : Int) = n → D.s = s → H q = none → Ex [a] H H' → PoolAt H' a → MDAt K H' q D → Q (.ref q) H'
def sp_lawP_loop (K : PySem.W.Frag) : Sp := fun vs H Q _ => ∃ q : Addr, vs = [.ref q] ∧ ∃ D : MD, MDAt K H q D ∧ GoodMD D ∧ ∀ x H', Ex [] H H' → LoopAt K H' x (loopD D) → Q (.ref x) H'
section
variable {K : PySem.W.Frag} {H H' : Hp} {Q : VK} {E : XK} {a q : Addr} {D : MD}
theorem u_purse {n : Int} {ns : List Int} (hs : SqL K H a (ns.map V.int)) (hl : ns.length ≤ 63) (h0 : 0 ≤ n) (h1 : n < 1000) (k : ∀ p H', H p = none → Ex [] H H' → PoolAt H' p → Q (.ref p) H') : sp_lawP_purse K ([.ref a, .int n] ++ []) H Q E := ⟨a, ns, n, rfl, hs, hl, h0, h1, k⟩
theorem u_pick {m : Int} (h0 : 0 < m) (h1 : m < 1000000) (hp : PoolAt H a) (k : ∀ (r : Int) (H' : Hp), 0 ≤ r → r < m → Ex [a] H H' → PoolAt H' a → Q (.int r) H') : sp_lawP_pick K ([.ref a, .int m] ++ []) H Q E := ⟨a, m, rfl, h0, h1, hp, k⟩
theorem u_namesP {m : Int} (h1 : 1 ≤ m) (h6 : m ≤ 6) (hp : PoolAt H a) (k : ∀ (st : List (List Nat)) (p : Addr) (H' : Hp), goodSt st → (st.length : Int) = m → H p = none → Ex [a] H H' → PoolAt H' a → H' p = some (.lst (st.map vS)) → Q (.ref p) H') : sp_lawP_names K ([.ref a, .int m] ++ []) H Q E := ⟨a, m, rfl, h1, h6, hp, k⟩
theorem u_signsP {m : Int} (h1 : 1 ≤ m) (h4 : m ≤ 4) (hp : PoolAt H a) (k : ∀ (s : List Nat) (H' : Hp), goodS s → sgn s = s → (s.length : Int) = m → Ex [a] H H' → PoolAt H' a → Q (vS s) H') : sp_lawP_signs K ([.ref a, .int m] ++ []) H Q E := ⟨a, m, rfl, h1, h4, hp, k⟩
theorem u_amountP {g : Bool} (hp : PoolAt H a) (k : ∀ (r : Int) (H' : Hp), r.natAbs ≤ 2 ^ 200 → Ex [a] H H' → PoolAt H' a → Q (.int r) H') : sp_lawP_amount K ([.ref a, .bl g] ++ []) H Q E := ⟨a, g, rfl, hp, k⟩
theorem u_modelP {n : Int} {s : List Nat} {g : Bool} (hs : goodS s) (hs2 : sgn s = s) (h1 : 1 ≤ n) (h6 : n ≤ 6) (hp : PoolAt H a) (k : ∀ (q : Addr) (D : MD) (H' : Hp), GoodMD D → (D.n : Int) = n → D.s = s → H q = none → Ex [a] H H' → PoolAt H' a → MDAt K H' q D → Q (.ref q) H') : sp_lawP_model K ([.ref a, .int n, vS s, .bl g] ++ []) H Q E := ⟨a, n, s, g, rfl, hs, hs2, h1, h6, hp, k⟩
theorem u_loopP (h : MDAt K H q D) (m : GoodMD D) (k : ∀ x H', Ex [] H H' → LoopAt K H' x (loopD D) → Q (.ref x) H') : sp_lawP_loop K ([.ref q] ++ []) H Q E := ⟨q, rfl, D, h, m, k⟩
theorem inV_I {x : Int} {ls : List Int} : inV (.int x) (ls.map V.int) = decide (x ∈ ls) := by
  unfold inV
  rw [List.any_map, Bool.eq_iff_iff, List.any_eq_true, decide_eq_true_iff]
  constructor
  · rintro ⟨y, hy, e⟩
    have e : eqV (.int y) (.int x) = true := e
    have e : (y == x) = true := e
    rw [← eq_of_beq e]; exact hy
  · intro h
    exact ⟨x, h, by show (x == x) = true; simp⟩
theorem flat_I : ∀ ls : List Int, (ls.map V.int).all flatV = true
  | [] => rfl
  | x :: r => by rw [List.map_cons, List.all_cons, flat_I r]; rfl
theorem s_inI {x : Int} {ls : List Int} (h : SqL K H a (ls.map V.int)) (k : Q (.bl (decide (x ∈ ls))) H) : rIn K false (.int x) (.ref a) H Q := ⟨a, _, rfl, .inl h, rfl, flat_I ls, by rw [inV_I]; exact k⟩
theorem s_strI {j : Nat} (h : j < 10) (k : Q (vS [48 + j]) H) : rStrI [.int (j : Nat)] H Q := ⟨_, rfl, by
  have : ((j : Nat) : Int).natAbs = j := rfl
  rw [this]
  exact Nat.lt_of_le_of_lt (Nat.log2_le_self j) (by omega), by
  have e : (Str.ofString (toString ((j : Nat) : Int))) = S [48 + j] := str_small j h
  show Q (.str (Str.ofString (toString ((j : Nat) : Int)))) H
  rw [e]
  exact k⟩
end
end WB
namespace WB
open PySem PySem.Spec PyProof.Rows L2
theorem litP1_97_98_99_122 : ("abcz" : Str) = S [97, 98, 99, 122] := by decide +kernel
theorem litP1_107_109_120_121 : ("kmxy" : Str) = S [107, 109, 120, 121] := by decide +kernel
theorem litP1_98_100_112_122 : ("bdpz" : Str) = S [98, 100, 112, 122] := by decide +kernel
local macro_rules | `(tactic| walk_at "lit") => `(tactic| first | exact litP1_97_98_99_122 | exact litP1_107_109_120_121 | exact litP1_98_100_112_122)
local macro_rules | `(tactic| walk_at "lit") => `(tactic| first | exact lit_abc | exact lit_empty)
local macro_rules | `(tactic| walk_at "nm") => `(tactic| focus first | exact List.not_mem_nil | (simp only [List.mem_singleton]; first | assumption | (exact Ne.symm (by assumption)) | (intro hz; subst hz; simp_all; done)))
local macro_rules | `(tactic| walk_at "hp") => `(tactic| first | assumption | (apply Ex.get0 (by assumption); walk_at "hp") | (apply Ex.get (by assumption); (walk_at "nm"); (walk_at "hp")))
local macro_rules | `(tactic| walk_at "sq") => `(tactic| first | assumption | (apply SqL.of; walk_at "hp") | (apply Ex.sqL (by assumption); (walk_at "nm"); (walk_at "sq")))
local macro_rules | `(tactic| walk_at "sqt") => `(tactic| first | assumption | (apply SqT.of; walk_at "hp") | (apply Ex.sqT (by assumption); (walk_at "nm"); (walk_at "sqt")))
local macro_rules | `(tactic| walk_at "sz") => `(tactic| focus ((with_reducible refine Nat.le_trans (m := 100000) ?_ (by decide)); first | omega | (simp; done) | (simp; omega)))
local macro_rules | `(tactic| walk_at "mul") => `(tactic| first | exact Or.inr ⟨by omega, by omega⟩ | exact Or.inl ⟨by omega, by omega⟩)
local macro_rules | `(tactic| walk_at "pool") => `(tactic| first | assumption | (apply PoolAt.ex (by assumption); (walk_at "nm"); (walk_at "pool")))
local macro_rules | `(tactic| walk_at "ring") => `(tactic| first | assumption | (apply RingAt.ex (by assumption); (walk_at "nm"); (walk_at "ring")))
local macro_rules | `(tactic| walk_at "st") => `(tactic| first
  | with_reducible refine s_seq ?_
  | with_reducible refine s_asg ?_
  | with_reducible refine s_gName ?_
  | with_reducible refine s_ret ?_
  | with_reducible refine s_ifS ?_
  | with_reducible refine s_next ?_
  | with_reducible refine s_op ?_
  | ((with_reducible apply s_var); exact rfl)
  | ((with_reducible apply s_cS); (walk_at "lit"))
  | with_reducible refine s_c ?_
  | with_reducible refine s_cb ?_
  | with_reducible refine s_cons ?_
  | with_reducible refine s_nil ?_
  | with_reducible refine s_un ?_
  | with_reducible refine s_call ?_
  | with_reducible refine s_test ?_
  | with_reducible refine s_tB ?_
  | with_reducible refine s_blQ ?_
  | with_reducible refine s_not ?_
  | with_reducible refine s_and ?_
  | with_reducible refine s_or ?_
  | with_reducible refine s_andV ?_
  | with_reducible refine s_orV ?_
  | with_reducible refine s_notV ?_
  | with_reducible refine s_ifE ?_
  | with_reducible refine s_chain ?_
  | ((with_reducible refine s_T ?_ ?_); (with_reducible exact rfl))
  | with_reducible refine s_nT ?_
  | with_reducible refine s_nF ?_
  | ((with_reducible refine s_F ?_ ?_); (with_reducible exact rfl))
  | ((with_reducible refine s_T ?_ ?_); assumption)
  | ((with_reducible refine s_F ?_ ?_); assumption)
  | ((with_reducible refine s_nB ?_ ?_); assumption)
  | ((with_reducible refine s_nA ?_ ?_); assumption)
  | ((with_reducible refine s_Td ?_ ?_); omega)
  | ((with_reducible refine s_Fd ?_ ?_); omega)
  | ((with_reducible refine s_nTd ?_ ?_); omega)
  | ((with_reducible refine s_nFd ?_ ?_); omega)
  | with_reducible refine s_sfld ?_
  | with_reducible refine s_addI ?_
  | with_reducible refine s_subI ?_
  | ((with_reducible refine s_mulI ?_ ?_); (walk_at "mul"))
  | ((with_reducible refine s_divI ?_ ?_); exact ⟨by omega, by omega⟩)
  | ((with_reducible refine s_modI ?_ ?_); omega)
  | ((with_reducible refine s_powI ?_ ?_); exact ⟨by decide, by decide, by decide⟩)
  | with_reducible refine s_ltI ?_
  | with_reducible refine s_leI ?_
  | with_reducible refine s_gtI ?_
  | with_reducible refine s_geI ?_
  | with_reducible refine s_negI ?_
  | with_reducible refine s_absI ?_
  | with_reducible refine s_intI ?_
  | with_reducible refine s_min2 ?_
  | with_reducible refine s_max2 ?_
  | with_reducible refine s_eqI ?_
  | with_reducible refine s_neI ?_
  | with_reducible refine s_eqS ?_
  | with_reducible refine s_neS ?_
  | with_reducible refine s_inSg ?_
  | with_reducible refine s_notInSg ?_
  | ((with_reducible refine s_addS ?_ ?_); (walk_at "sz"))
  | ((with_reducible refine s_lenS ?_ ?_); (walk_at "sz"))
  | ((with_reducible apply s_lenL); (walk_at "sq"))
  | ((with_reducible apply s_lenT); (walk_at "sqt"))
  | ((with_reducible apply s_ixL); (walk_at "sq"); exact rfl)
  | ((with_reducible apply s_ixT); (walk_at "sqt"); exact rfl)
  | with_reducible refine s_gSub ?_
  | ((with_reducible apply s_setL); (walk_at "hp"); (exact rfl); (intro _ _ _))
  | ((with_reducible refine s_alloc ?_ ?_); (walk_at "sz"); (intro _ _ _ _ _))
  | ((with_reducible refine s_divmod ?_ ?_); (exact ⟨by omega, PyProof.noPylong_small (by omega)⟩); (intro _ _ _ _ _))
  | ((with_reducible apply s_gTup); (walk_at "sqt"); (exact rfl))
  | ((with_reducible apply s_gLst); (walk_at "sq"); (exact rfl))
  | with_reducible refine s_gCons ?_
  | with_reducible refine s_gNil ?_
  | with_reducible refine s_lc ?_
  | ((with_reducible apply s_cat); (walk_at "hp"); (walk_at "hp"); (walk_at "sz"); (intro _ _ _ _ _))
  | ((with_reducible apply s_slL); (walk_at "sq"); (intro _ _ _ _ _))
  | with_reducible refine s_for ?_
  | with_reducible refine s_rng1 ?_
  | ((with_reducible refine s_rng1i ?_ ?_); (constructor <;> omega))
  | with_reducible refine s_rng2 ?_
  | ((with_reducible refine s_rng2i ?_ ?_); (refine ⟨?_, ?_, ?_, ?_⟩ <;> omega))
  | with_reducible refine s_iStr ?_
  | with_reducible refine s_iStrS ?_
  | with_reducible refine s_iList ?_
  | ((with_reducible apply s_iListA); (walk_at "sq"))
  | with_reducible refine s_iTup ?_
  | ((with_reducible apply s_iTupA); (walk_at "sqt"))
  | with_reducible refine s_sl ?_
  | with_reducible refine s_noPart ?_
  | with_reducible refine s_part ?_
  | with_reducible refine s_int1 ?_
  | ((with_reducible refine s_slS ?_ ?_); (walk_at "sz"))
  | with_reducible refine s_tup ?_
  | with_reducible refine s_lst ?_
  | with_reducible refine s_par ?_
  | with_reducible refine s_pair ?_
  | with_reducible refine s_M1 ?_
  | with_reducible refine s_isStr ?_
  | with_reducible refine s_revS ?_
  | ((with_reducible refine s_revS1 ?_ ?_); (walk_at "sz"))
  | with_reducible refine s_fldE ?_
  | with_reducible refine s_propE ?_
  | ((with_reducible refine u_draw ?_ ?_ ?_ ?_); omega; omega; (walk_at "pool"); (intro _ _ _ _ _ _))
  | ((with_reducible refine u_pool ?_); (intro _ _ _ _ _))
  | with_reducible refine u_is_integer ?_
  | with_reducible refine s_isiII ?_
  | with_reducible refine s_isiIB ?_
  | with_reducible refine s_isiSS ?_
  | ((with_reducible apply u_fldRing); assumption; (walk_at "ring"))
  | ((with_reducible apply u_textP); (walk_at "ring"))
  | ((with_reducible apply u_strRing); (walk_at "ring"))
  | ((with_reducible apply u_eqRing); (walk_at "ring"); (walk_at "ring"))
  | ((with_reducible apply u_isiRing); assumption; (walk_at "ring"))
  | ((with_reducible refine u_is_word ?_ ?_); omega; (intro _ _))
  | ((with_reducible refine u_turnings ?_ ?_); omega; (intro _ _ _ _ _))
  | with_reducible refine s_makeE ?_
  | with_reducible refine s_methE ?_)
local macro_rules | `(tactic| walk_at "go") => `(tactic| repeat (walk_at "st"))
local macro_rules | `(tactic| walk_at "exs") => `(tactic| first | exact Ex.rfl | assumption | (apply Ex.snoc (by assumption); walk_at "exs") | (apply Ex.snocW (by assumption); walk_at "exs"))
local macro_rules | `(tactic| walk_at "kind") => `(tactic| first | assumption | (apply KindAt.ex0 (by assumption); (walk_at "kind")) | (apply KindAt.exP (by assumption) (by assumption); (walk_at "kind")))
local macro_rules | `(tactic| walk_at "st") => `(tactic| first
  | with_reducible refine s_lenSet ?_
  | with_reducible refine s_drop ?_
  | with_reducible refine s_bm ?_
  | with_reducible refine s_notN ?_
  | with_reducible refine s_isN ?_
  | ((with_reducible apply s_tyL); (walk_at "hp"))
  | with_reducible refine s_enumT ?_
  | ((with_reducible apply s_enumTA); (walk_at "sqt"))
  | with_reducible refine s_lc2 ?_)
local macro_rules | `(tactic| walk_at "lit") => `(tactic| exact lit_MRK)
local macro_rules | `(tactic| walk_at "st") => `(tactic| first
  | with_reducible refine s_dcT ?_
  | with_reducible refine s_dc ?_)
local macro_rules | `(tactic| walk_at "lit") => `(tactic| exact lit_z)
local macro_rules | `(tactic| walk_at "lit") => `(tactic| exact lit_s)
local macro_rules | `(tactic| walk_at "st") => `(tactic| first
  | ((with_reducible refine u_pick ?_ ?_ ?_ ?_); omega; omega; (walk_at "pool"); (intro _ _ _ _ _ _))
  | with_reducible refine s_dget ?_)
/-- _law_purse: 0 _law_script 1 _law_spot 2 _law_own 3 _law_mixed 4 _law_cell -/
def t_lawP_purse (K : PySem.W.Frag) : TS :=
  (tSeq (tAsg (tIf (tTest (tOp rLtI (tVar 1) (tCB (rLenV K) (tCons (tVar 0) tNil)))) (tOp (rIxL K) (tVar 0) (tVar 1)) (tC (.int 0))) (gName 2))
  (tSeq (tAsg (tOp rAddI (tC (.int 104729)) (tOp rMulI (tC (.int 613)) (tVar 1))) (gName 3))
  (tSeq (tFor (iList K (tOp rCat (tSl (rSlL K) (tVar 0) tNoPart (tPart (tC (.int 4)))) (tSl (rSlL K) (tVar 0) (tPart (tVar 1)) (tPart (tOp rAddI (tVar 1) (tC (.int 1))))))) (gName 4) (tAsg (tOp rModI (tCB rIntI (tCons (tOp rAddI (tOp rAddI (tOp rMulI (tVar 3) (tC (.int 48271))) (tOp rMulI (tVar 4) (tC (.int 3)))) (tC (.int 7))) tNil)) (tC (.int 2147483587))) (gName 3)))
  (tRet (tLst (tCons (tIf (tTest (tOp rGeI (tCB rAbsI (tCons (tVar 2) tNil)) (tOp rPowI (tC (.int 10)) (tC (.int 18))))) (tCB rAbsI (tCons (tVar 2) tNil)) (tC (.int 0))) (tCons (tVar 3) (tCons (tC (.int 0)) tNil))))))))
/-- _law_pick: 0 _law_purse_here 1 _law_length 2 _law_seed 3 _law_again 4 _law_digit -/
def t_lawP_pick (K : PySem.W.Frag) : TS :=
  (tSeq (tAsg (tOp rAddI (tOp (rIxL K) (tVar 0) (tC (.int 2))) (tC (.int 1))) (gSub (tVar 0) (tC (.int 2)) rSetL))
  (tSeq (tAsg (tCB rIntI (tCons (tOp (rIxL K) (tVar 0) (tC (.int 1))) tNil)) (gName 2))
  (tSeq (tAsg (tOp rMulI (tOp rAddI (tOp rModI (tCB rIntI (tCons (tVar 2) tNil)) (tC (.int 65521))) (tC (.int 29))) (tOp rAddI (tOp rDivI (tVar 2) (tC (.int 65521))) (tC (.int 40503)))) (gName 3))
  (tSeq (tAsg (tOp rModI (tCB rIntI (tCons (tOp rAddI (tVar 3) (tOp rMulI (tOp (rIxL K) (tVar 0) (tC (.int 2))) (tC (.int 7919)))) tNil)) (tC (.int 2147483629))) (gSub (tVar 0) (tC (.int 1)) rSetL))
  (tSeq (tIfS (tTest (tOp rGtI (tOp (rIxL K) (tVar 0) (tC (.int 0))) (tC (.int 0)))) (tSeq (tAsg (tCB rDivmod (tCons (tOp (rIxL K) (tVar 0) (tC (.int 0))) (tCons (tVar 1) tNil))) (gTup K 2 (gCons (gSub (tVar 0) (tC (.int 0)) rSetL) (gCons (gName 4) gNil))))
  (tRet (tVar 4))) tNext)
  (tRet (tOp rModI (tCB rIntI (tCons (tOp rDivI (tOp (rIxL K) (tVar 0) (tC (.int 1))) (tC (.int 61))) tNil)) (tVar 1))))))))
/-- _law_amount: 0 _law_purse_here 1 _law_great 2 _law_worth -/
def t_lawP_amount (K : PySem.W.Frag) : TS :=
  (tSeq (tAsg (tOp rSubI (tCall (sp_lawP_pick K) [] E0 (tCons (tVar 0) (tCons (tC (.int 7)) tNil))) (tC (.int 3))) (gName 2))
  (tSeq (tIfS (tAnd (tB (tVar 1)) (tTest (tOp rEq (tCall (sp_lawP_pick K) [] E0 (tCons (tVar 0) (tCons (tC (.int 6)) tNil))) (tC (.int 0))))) (tAsg (tOp rAddI (tOp rMulI (tVar 2) (tOp rPowI (tC (.int 10)) (tC (.int 12)))) (tCall (sp_lawP_pick K) [] E0 (tCons (tVar 0) (tCons (tC (.int 5)) tNil)))) (gName 2)) tNext)
  (tRet (tVar 2))))
/-- _law_signs: 0 _law_purse_here 1 _law_length -/
def t_lawP_signs (K : PySem.W.Frag) : TS :=
  (tRet (tSl rSlS (tOp (rIxL K) (tLst (tCons (tC (.str "abcz")) (tCons (tC (.str "kmxy")) (tCons (tC (.str "bdpz")) tNil)))) (tCall (sp_lawP_pick K) [] E0 (tCons (tVar 0) (tCons (tC (.int 3)) tNil)))) tNoPart (tPart (tVar 1))))
section
variable {K : PySem.W.Frag} {vs : List V} {H H' : Hp} {Q : VK} {E : XK}
theorem pure_lawP_purse (h : sp_lawP_purse K vs H Q E) : t_lawP_purse K (E1 Q) (start ["_law_script", "_law_spot", "_law_own", "_law_mixed", "_law_cell"] vs) H := by
  obtain ⟨a, ns, n, rfl, hs, hl, h0, h1, k⟩ := h
  show t_lawP_purse K (E1 Q) [some (.ref a), some (.int n), none, none, none] H
  unfold t_lawP_purse
  refine s_seq ?_
  refine s_asg ?_
  refine cutpt (fun v G => G = H ∧ ∃ c : Int, v = .int c) (fun Q' kq => ?_) ?_
  · walk_at "go"
    refine s_2 (fun hb => ?_) (fun hb => ?_)
    · have hb := of_decide_eq_true hb
      rw [List.length_map] at hb
      have hx : ns[n.toNat]? = some (ns[n.toNat]'(by omega)) := List.getElem?_eq_getElem _
      walk_at "go"
      refine s_ixL hs (atI_of h0 (by rw [List.getElem?_map, hx]; rfl)) ?_
      exact kq _ _ ⟨rfl, _, rfl⟩
    · walk_at "go"
      exact kq _ _ ⟨rfl, _, rfl⟩
  rintro v G ⟨rfl, c, rfl⟩
  walk_at "go"
  rename_i l1 H1 nl1 e1 z1 l2 H2 nl2 e2 z2
  have len : ∀ {lo hi}, (cutV (ns.map V.int) lo hi).length ≤ 63 := fun {lo hi} => by
    unfold cutV
    rw [List.length_take, List.length_drop, List.length_map]
    omega
  refine s_cat (e2.get0 z1) z2 (Nat.le_trans (m := 200) (by have h1 := len (lo := none) (hi := some 4); have h2 := len (lo := some n) (hi := some (n + 1)); omega) (by decide)) fun l3 H3 nl3 e3 z3 => ?_
  have e03 := e1.trans (e2.trans e3)
  walk_at "go"
  refine for_run walk_list (fun i σ H1 => ∃ (d : Int) (x : Option V), σ = [some (.ref a), some (.int n), some (.int c), some (.int d), x] ∧ Ex [] G H1 ∧ H1 l3 = some (.lst (cutV (ns.map V.int) none (some 4) ++ cutV (ns.map V.int) (some n) (some (n + 1))))) ⟨_, none, rfl, e03, z3⟩ (fun i σ H1 _ ⟨_, _, _, _, h⟩ => SqL.of h) ?_ ?_
  · rintro i x σ J J2 hi ⟨d, y, rfl, e, hc⟩ ⟨rfl, hx⟩
    have hm : ∃ z : Int, x = .int z := by
      rcases List.mem_append.mp (List.mem_of_getElem? hx) with hx | hx
      · obtain ⟨z, _, rfl⟩ := List.mem_map.mp (mem_cutV hx); exact ⟨z, rfl⟩
      · obtain ⟨z, _, rfl⟩ := List.mem_map.mp (mem_cutV hx); exact ⟨z, rfl⟩
    obtain ⟨z, rfl⟩ := hm
    walk_at "go"
    exact ⟨_, _, rfl, e, hc⟩
  · rintro σ J ⟨d, y, rfl, e, hc⟩
    walk_at "go"
    refine s_2 (fun hb => ?_) (fun hb => ?_)
    · walk_at "go"
      rename_i p J2 np e4 z4
      exact k p J2 (e.free np) (e.trans e4) ⟨_, _, _, z4⟩
    · walk_at "go"
      rename_i p J2 np e4 z4
      exact k p J2 (e.free np) (e.trans e4) ⟨_, _, _, z4⟩
theorem pure_lawP_pick (h : sp_lawP_pick K vs H Q E) : t_lawP_pick K (E1 Q) (start ["_law_purse_here", "_law_length", "_law_seed", "_law_again", "_law_digit"] vs) H := by
  obtain ⟨a, m, rfl, h0, h1, ⟨x, y, z, hp⟩, k⟩ := h
  show t_lawP_pick K (E1 Q) [some (.ref a), some (.int m), none, none, none] H
  unfold t_lawP_pick
  walk_at "go"
  refine s_2 (fun hb => ?_) (fun hb => ?_)
  · walk_at "go"
    exact k _ _ (Int.emod_nonneg _ (by omega)) (Int.emod_lt_of_pos _ h0) (by walk_at "exs") ⟨_, _, _, by walk_at "hp"⟩
  · walk_at "go"
    exact k _ _ (Int.emod_nonneg _ (by omega)) (Int.emod_lt_of_pos _ h0) (by walk_at "exs") ⟨_, _, _, by walk_at "hp"⟩
theorem pure_lawP_amount (h : sp_lawP_amount K vs H Q E) : t_lawP_amount K (E1 Q) (start ["_law_purse_here", "_law_great", "_law_worth"] vs) H := by
  obtain ⟨a, g, rfl, hp, k⟩ := h
  show t_lawP_amount K (E1 Q) [some (.ref a), some (.bl g), none] H
  unfold t_lawP_amount
  have hB : 10000000000000 ≤ 2 ^ 200 := by decide
  have c12 : (10 : Int) ^ (12 : Int).toNat = 1000000000000 := by decide
  walk_at "go"
  rename_i r H1 r0 r1 e1 p1
  cases g with
  | false =>
    refine s_F rfl ?_
    walk_at "go"
    exact k _ _ (by omega) e1 p1
  | true =>
    refine s_T rfl ?_
    walk_at "go"
    rename_i r2 H2 r20 r21 e2 p2
    refine s_2 (fun hb => ?_) (fun hb => ?_)
    · walk_at "go"
      rename_i r3 H3 r30 r31 e3 p3
      refine k _ _ ?_ (e1.trans (e2.trans e3)) p3
      rw [c12]
      omega
    · walk_at "go"
      exact k _ _ (by omega) (e1.trans e2) p2
theorem sgn_id {s : List Nat} (h : (s.map fun c => [c]).Pairwise (· ≤ ·)) : sgn s = s := by
  unfold sgn
  rw [srt_id h, flat1]
theorem signs_ok : ∀ i, i < 3 → ∀ m, 1 ≤ m → m ≤ 4 → goodS (([[97, 98, 99, 122], [107, 109, 120, 121], [98, 100, 112, 122]] : List (List Nat)).getD i [] |>.take m) ∧ sgn (([[97, 98, 99, 122], [107, 109, 120, 121], [98, 100, 112, 122]] : List (List Nat)).getD i [] |>.take m) = (([[97, 98, 99, 122], [107, 109, 120, 121], [98, 100, 112, 122]] : List (List Nat)).getD i [] |>.take m) ∧ (([[97, 98, 99, 122], [107, 109, 120, 121], [98, 100, 112, 122]] : List (List Nat)).getD i [] |>.take m).length = m := by
  intro i hi m h1 h4
  have hi : i = 0 ∨ i = 1 ∨ i = 2 := by omega
  have hm : m = 1 ∨ m = 2 ∨ m = 3 ∨ m = 4 := by omega
  rcases hi with rfl | rfl | rfl <;> rcases hm with rfl | rfl | rfl | rfl <;> refine ⟨⟨?_, ?_, ?_⟩, sgn_id ?_, ?_⟩ <;> decide
theorem pure_lawP_signs (h : sp_lawP_signs K vs H Q E) : t_lawP_signs K (E1 Q) (start ["_law_purse_here", "_law_length"] vs) H := by
  obtain ⟨a, m, rfl, m1, m4, hp, k⟩ := h
  show t_lawP_signs K (E1 Q) [some (.ref a), some (.int m)] H
  unfold t_lawP_signs
  walk_at "go"
  rename_i l H1 nl e1 z1 r H2 r0 r1 e2 p2
  have hla : l ≠ a := fun z => hp.there (z ▸ nl)
  have z2 := e2.get (by simpa using hla) z1
  have key := signs_ok r.toNat (by omega) m.toNat (by omega) (by omega)
  have hix : atI [vS [97, 98, 99, 122], vS [107, 109, 120, 121], vS [98, 100, 112, 122]] r = some (vS (([[97, 98, 99, 122], [107, 109, 120, 121], [98, 100, 112, 122]] : List (List Nat)).getD r.toNat [])) := by
    have hr : r = 0 ∨ r = 1 ∨ r = 2 := by omega
    rcases hr with rfl | rfl | rfl <;> rfl
  refine s_ixL (SqL.of z2) hix ?_
  have hlen : (([[97, 98, 99, 122], [107, 109, 120, 121], [98, 100, 112, 122]] : List (List Nat)).getD r.toNat []).length ≤ 4 := by
    have hr : r = 0 ∨ r = 1 ∨ r = 2 := by omega
    rcases hr with rfl | rfl | rfl <;> decide
  generalize ([[97, 98, 99, 122], [107, 109, 120, 121], [98, 100, 112, 122]] : List (List Nat)).getD r.toNat [] = z at *
  walk_at "go"
  rw [cut_to (by omega)]
  exact k _ _ key.1 key.2.1 (by rw [key.2.2]; omega) (e1.wide.trans e2) p2
end
end WB
namespace WB
open PySem PySem.Spec PyProof.Rows L2
theorem litP2_115 : ("s" : Str) = S [115] := by decide +kernel
theorem litP2_115_105_103_110_115 : ("signs" : Str) = S [115, 105, 103, 110, 115] := by decide +kernel
theorem litP2_115_116_101_112_115 : ("steps" : Str) = S [115, 116, 101, 112, 115] := by decide +kernel
theorem litP2_101_110_100_115 : ("ends" : Str) = S [101, 110, 100, 115] := by decide +kernel
theorem litP2_121_101_115 : ("yes" : Str) = S [121, 101, 115] := by decide +kernel
theorem litP2_110_97_109_101_115 : ("names" : Str) = S [110, 97, 109, 101, 115] := by decide +kernel
local macro_rules | `(tactic| walk_at "lit") => `(tactic| first | exact litP2_115 | exact litP2_115_105_103_110_115 | exact litP2_115_116_101_112_115 | exact litP2_101_110_100_115 | exact litP2_121_101_115 | exact litP2_110_97_109_101_115)
local macro_rules | `(tactic| walk_at "lit") => `(tactic| first | exact lit_abc | exact lit_empty)
local macro_rules | `(tactic| walk_at "nm") => `(tactic| focus first | exact List.not_mem_nil | (simp only [List.mem_singleton]; first | assumption | (exact Ne.symm (by assumption)) | (intro hz; subst hz; simp_all; done)))
local macro_rules | `(tactic| walk_at "hp") => `(tactic| first | assumption | (apply Ex.get0 (by assumption); walk_at "hp") | (apply Ex.get (by assumption); (walk_at "nm"); (walk_at "hp")))
local macro_rules | `(tactic| walk_at "sq") => `(tactic| first | assumption | (apply SqL.of; walk_at "hp") | (apply Ex.sqL (by assumption); (walk_at "nm"); (walk_at "sq")))
local macro_rules | `(tactic| walk_at "sqt") => `(tactic| first | assumption | (apply SqT.of; walk_at "hp") | (apply Ex.sqT (by assumption); (walk_at "nm"); (walk_at "sqt")))
local macro_rules | `(tactic| walk_at "sz") => `(tactic| focus ((with_reducible refine Nat.le_trans (m := 100000) ?_ (by decide)); first | omega | (simp; done) | (simp; omega)))
local macro_rules | `(tactic| walk_at "mul") => `(tactic| first | exact Or.inr ⟨by omega, by omega⟩ | exact Or.inl ⟨by omega, by omega⟩)
local macro_rules | `(tactic| walk_at "pool") => `(tactic| first | assumption | (apply PoolAt.ex (by assumption); (walk_at "nm"); (walk_at "pool")))
local macro_rules | `(tactic| walk_at "ring") => `(tactic| first | assumption | (apply RingAt.ex (by assumption); (walk_at "nm"); (walk_at "ring")))
local macro_rules | `(tactic| walk_at "st") => `(tactic| first
  | with_reducible refine s_seq ?_
  | with_reducible refine s_asg ?_
  | with_reducible refine s_gName ?_
  | with_reducible refine s_ret ?_
  | with_reducible refine s_ifS ?_
  | with_reducible refine s_next ?_
  | with_reducible refine s_op ?_
  | ((with_reducible apply s_var); exact rfl)
  | ((with_reducible apply s_cS); (walk_at "lit"))
  | with_reducible refine s_c ?_
  | with_reducible refine s_cb ?_
  | with_reducible refine s_cons ?_
  | with_reducible refine s_nil ?_
  | with_reducible refine s_un ?_
  | with_reducible refine s_call ?_
  | with_reducible refine s_test ?_
  | with_reducible refine s_tB ?_
  | with_reducible refine s_blQ ?_
  | with_reducible refine s_not ?_
  | with_reducible refine s_and ?_
  | with_reducible refine s_or ?_
  | with_reducible refine s_andV ?_
  | with_reducible refine s_orV ?_
  | with_reducible refine s_notV ?_
  | with_reducible refine s_ifE ?_
  | with_reducible refine s_chain ?_
  | ((with_reducible refine s_T ?_ ?_); (with_reducible exact rfl))
  | with_reducible refine s_nT ?_
  | with_reducible refine s_nF ?_
  | ((with_reducible refine s_F ?_ ?_); (with_reducible exact rfl))
  | ((with_reducible refine s_T ?_ ?_); assumption)
  | ((with_reducible refine s_F ?_ ?_); assumption)
  | ((with_reducible refine s_nB ?_ ?_); assumption)
  | ((with_reducible refine s_nA ?_ ?_); assumption)
  | ((with_reducible refine s_Td ?_ ?_); omega)
  | ((with_reducible refine s_Fd ?_ ?_); omega)
  | ((with_reducible refine s_nTd ?_ ?_); omega)
  | ((with_reducible refine s_nFd ?_ ?_); omega)
  | with_reducible refine s_sfld ?_
  | with_reducible refine s_addI ?_
  | with_reducible refine s_subI ?_
  | ((with_reducible refine s_mulI ?_ ?_); (walk_at "mul"))
  | ((with_reducible refine s_divI ?_ ?_); exact ⟨by omega, by omega⟩)
  | ((with_reducible refine s_modI ?_ ?_); omega)
  | ((with_reducible refine s_powI ?_ ?_); exact ⟨by decide, by decide, by decide⟩)
  | with_reducible refine s_ltI ?_
  | with_reducible refine s_leI ?_
  | with_reducible refine s_gtI ?_
  | with_reducible refine s_geI ?_
  | with_reducible refine s_negI ?_
  | with_reducible refine s_absI ?_
  | with_reducible refine s_intI ?_
  | with_reducible refine s_min2 ?_
  | with_reducible refine s_max2 ?_
  | with_reducible refine s_eqI ?_
  | with_reducible refine s_neI ?_
  | with_reducible refine s_eqS ?_
  | with_reducible refine s_neS ?_
  | with_reducible refine s_inSg ?_
  | with_reducible refine s_notInSg ?_
  | ((with_reducible refine s_addS ?_ ?_); (walk_at "sz"))
  | ((with_reducible refine s_lenS ?_ ?_); (walk_at "sz"))
  | ((with_reducible apply s_lenL); (walk_at "sq"))
  | ((with_reducible apply s_lenT); (walk_at "sqt"))
  | ((with_reducible apply s_ixL); (walk_at "sq"); exact rfl)
  | ((with_reducible apply s_ixT); (walk_at "sqt"); exact rfl)
  | with_reducible refine s_gSub ?_
  | ((with_reducible apply s_setL); (walk_at "hp"); (exact rfl); (intro _ _ _))
  | ((with_reducible refine s_alloc ?_ ?_); (walk_at "sz"); (intro _ _ _ _ _))
  | ((with_reducible refine s_divmod ?_ ?_); (exact ⟨by omega, PyProof.noPylong_small (by omega)⟩); (intro _ _ _ _ _))
  | ((with_reducible apply s_gTup); (walk_at "sqt"); (exact rfl))
  | ((with_reducible apply s_gLst); (walk_at "sq"); (exact rfl))
  | with_reducible refine s_gCons ?_
  | with_reducible refine s_gNil ?_
  | with_reducible refine s_lc ?_
  | ((with_reducible apply s_cat); (walk_at "hp"); (walk_at "hp"); (walk_at "sz"); (intro _ _ _ _ _))
  | ((with_reducible apply s_slL); (walk_at "sq"); (intro _ _ _ _ _))
  | with_reducible refine s_for ?_
  | with_reducible refine s_rng1 ?_
  | ((with_reducible refine s_rng1i ?_ ?_); (constructor <;> omega))
  | with_reducible refine s_rng2 ?_
  | ((with_reducible refine s_rng2i ?_ ?_); (refine ⟨?_, ?_, ?_, ?_⟩ <;> omega))
  | with_reducible refine s_iStr ?_
  | with_reducible refine s_iStrS ?_
  | with_reducible refine s_iList ?_
  | ((with_reducible apply s_iListA); (walk_at "sq"))
  | with_reducible refine s_iTup ?_
  | ((with_reducible apply s_iTupA); (walk_at "sqt"))
  | with_reducible refine s_sl ?_
  | with_reducible refine s_noPart ?_
  | with_reducible refine s_part ?_
  | with_reducible refine s_int1 ?_
  | ((with_reducible refine s_slS ?_ ?_); (walk_at "sz"))
  | with_reducible refine s_tup ?_
  | with_reducible refine s_lst ?_
  | with_reducible refine s_par ?_
  | with_reducible refine s_pair ?_
  | with_reducible refine s_M1 ?_
  | with_reducible refine s_isStr ?_
  | with_reducible refine s_revS ?_
  | ((with_reducible refine s_revS1 ?_ ?_); (walk_at "sz"))
  | with_reducible refine s_fldE ?_
  | with_reducible refine s_propE ?_
  | ((with_reducible refine u_draw ?_ ?_ ?_ ?_); omega; omega; (walk_at "pool"); (intro _ _ _ _ _ _))
  | ((with_reducible refine u_pool ?_); (intro _ _ _ _ _))
  | with_reducible refine u_is_integer ?_
  | with_reducible refine s_isiII ?_
  | with_reducible refine s_isiIB ?_
  | with_reducible refine s_isiSS ?_
  | ((with_reducible apply u_fldRing); assumption; (walk_at "ring"))
  | ((with_reducible apply u_textP); (walk_at "ring"))
  | ((with_reducible apply u_strRing); (walk_at "ring"))
  | ((with_reducible apply u_eqRing); (walk_at "ring"); (walk_at "ring"))
  | ((with_reducible apply u_isiRing); assumption; (walk_at "ring"))
  | ((with_reducible refine u_is_word ?_ ?_); omega; (intro _ _))
  | ((with_reducible refine u_turnings ?_ ?_); omega; (intro _ _ _ _ _))
  | with_reducible refine s_makeE ?_
  | with_reducible refine s_methE ?_)
local macro_rules | `(tactic| walk_at "go") => `(tactic| repeat (walk_at "st"))
local macro_rules | `(tactic| walk_at "exs") => `(tactic| first | exact Ex.rfl | assumption | (apply Ex.snoc (by assumption); walk_at "exs") | (apply Ex.snocW (by assumption); walk_at "exs"))
local macro_rules | `(tactic| walk_at "kind") => `(tactic| first | assumption | (apply KindAt.ex0 (by assumption); (walk_at "kind")) | (apply KindAt.exP (by assumption) (by assumption); (walk_at "kind")))
local macro_rules | `(tactic| walk_at "st") => `(tactic| first
  | with_reducible refine s_lenSet ?_
  | with_reducible refine s_drop ?_
  | with_reducible refine s_bm ?_
  | with_reducible refine s_notN ?_
  | with_reducible refine s_isN ?_
  | ((with_reducible apply s_tyL); (walk_at "hp"))
  | with_reducible refine s_enumT ?_
  | ((with_reducible apply s_enumTA); (walk_at "sqt"))
  | with_reducible refine s_lc2 ?_)
local macro_rules | `(tactic| walk_at "lit") => `(tactic| exact lit_MRK)
local macro_rules | `(tactic| walk_at "st") => `(tactic| first
  | with_reducible refine s_dcT ?_
  | with_reducible refine s_dc ?_)
local macro_rules | `(tactic| walk_at "lit") => `(tactic| exact lit_z)
local macro_rules | `(tactic| walk_at "lit") => `(tactic| exact lit_s)
local macro_rules | `(tactic| walk_at "st") => `(tactic| first
  | ((with_reducible refine u_pick ?_ ?_ ?_ ?_); omega; omega; (walk_at "pool"); (intro _ _ _ _ _ _))
  | with_reducible refine s_dget ?_)
/-- _law_names: 0 _law_purse_here 1 _law_length 2 _law_signs_here 3 _law_found 4 _law_k 5 _law_size 6 _law_called 7 _law_spare 8 _law_j 9 _law_one -/
def t_lawP_names (K : PySem.W.Frag) : TS :=
  (tSeq (tAsg (tC (.str "abcdefghijklmnopqrstuvwxyz0123456789")) (gName 2))
  (tSeq (tAsg (tLst tNil) (gName 3))
  (tSeq (tFor (iRng1 (tCons (tVar 1) tNil)) (gName 4) (tSeq (tAsg (tOp (rIxL K) (tLst (tCons (tC (.int 0)) (tCons (tC (.int 0)) (tCons (tC (.int 1)) (tCons (tC (.int 2)) (tCons (tC (.int 7)) tNil)))))) (tCall (sp_lawP_pick K) [] E0 (tCons (tVar 0) (tCons (tC (.int 5)) tNil)))) (gName 5))
  (tSeq (tAsg (tOp rIxS (tVar 2) (tCall (sp_lawP_pick K) [] E0 (tCons (tVar 0) (tCons (tC (.int 26)) tNil)))) (gName 6))
  (tSeq (tAsg (tOp rAddS (tVar 6) (tM1 (rJoin K) (tC (.str "")) (tLc (iRng1 (tCons (tVar 5) tNil)) (gName 8) tYes (tOp rIxS (tVar 2) (tCall (sp_lawP_pick K) [] E0 (tCons (tVar 0) (tCons (tC (.int 36)) tNil)))) [8]))) (gName 6))
  (tSeq (tAsg (tOp rCat (tLst (tCons (tVar 6) tNil)) (tLc (iRng1 (tCons (tVar 1) tNil)) (gName 8) tYes (tOp rAddS (tC (.str "s")) (tCB rStrI (tCons (tVar 8) tNil))) [8])) (gName 7))
  (tDrop (tBM K "list" rAppend (tVar 3) (tCons (tOp (rIxL K) (tLc (iList K (tVar 7)) (gName 9) (tTest (tOp (rIn K true) (tVar 9) (tVar 3))) (tVar 9) [9]) (tC (.int 0))) tNil))))))))
  (tRet (tVar 3)))))
/-- _law_model: 0 _law_purse_here 1 _law_size 2 _law_signs_here 3 _law_great 4 _law_way 5 _law_steps 6 _law_turn 7 _law_sign 8 _law_goal 9 _law_state 10 _law_later 11 _law_ends 12 _law_yes_list -/
def t_lawP_model (K : PySem.W.Frag) : TS :=
  (tSeq (tAsg (tCall (sp_lawP_pick K) [] E0 (tCons (tVar 0) (tCons (tC (.int 5)) tNil))) (gName 4))
  (tSeq (tPar 5 6 (tCons tDNewT (tCons (tCall (sp_lawP_pick K) [] E0 (tCons (tVar 0) (tCons (tVar 1) tNil))) tNil)))
  (tSeq (tFor (iStr (tVar 2)) (gName 7) (tSeq (tAsg (tCall (sp_lawP_pick K) [] E0 (tCons (tVar 0) (tCons (tVar 1) tNil))) (gName 8))
  (tFor (iRng1 (tCons (tVar 1) tNil)) (gName 9) (tSeq (tAsg (tIf (tTest (tOp (rIn K false) (tVar 4) (tLst (tCons (tC (.int 0)) (tCons (tC (.int 4)) tNil))))) (tCall (sp_lawP_pick K) [] E0 (tCons (tVar 0) (tCons (tVar 1) tNil))) (tOp rModI (tCB rIntI (tCons (tOp rAddI (tVar 9) (tVar 8)) tNil)) (tVar 1))) (gName 10))
  (tSeq (tAsg (tIf (tTest (tOp rEq (tVar 4) (tC (.int 1)))) (tVar 8) (tVar 10)) (gName 10))
  (sDPut (tVar 5) (tTup (tCons (tVar 9) (tCons (tVar 7) tNil))) (tTup (tCons (tVar 10) (tCons (tCall (sp_lawP_amount K) [] E0 (tCons (tVar 0) (tCons (tVar 3) tNil))) tNil)))))))))
  (tSeq (tAsg (tLst tNil) (gName 11))
  (tSeq (tFor (iRng1 (tCons (tVar 1) tNil)) (gName 9) (tSeq (tAsg (tIf (tTest (tOp rEq (tVar 4) (tC (.int 4)))) (tCall (sp_lawP_pick K) [] E0 (tCons (tVar 0) (tCons (tVar 1) tNil))) (tVar 9)) (gName 10))
  (tDrop (tBM K "list" rAppend (tVar 11) (tCons (tTup (tCons (tIf (tTest (tOp rEq (tVar 4) (tC (.int 3)))) (tVar 6) (tVar 10)) (tCons (tIf (tTest (tOp rEq (tCall (sp_lawP_pick K) [] E0 (tCons (tVar 0) (tCons (tC (.int 3)) tNil))) (tC (.int 0)))) (tCall (sp_lawP_amount K) [] E0 (tCons (tVar 0) (tCons (tC (.bl false)) tNil))) (tC (.int 0))) tNil))) tNil)))))
  (tSeq (tAsg (tLc (iRng1 (tCons (tVar 1) tNil)) (gName 9) (tTest (tOp rEq (tCall (sp_lawP_pick K) [] E0 (tCons (tVar 0) (tCons (tC (.int 3)) tNil))) (tC (.int 0)))) (tVar 9) [9]) (gName 12))
  (tRet (tDisp [((tC (.str "signs")), (tVar 2)), ((tC (.str "steps")), (tVar 5)), ((tC (.str "ends")), (tVar 11)), ((tC (.str "yes")), (tVar 12)), ((tC (.str "names")), (tCall (sp_lawP_names K) [] E0 (tCons (tVar 0) (tCons (tVar 1) tNil))))]))))))))
section
variable {K : PySem.W.Frag} {vs : List V} {H H' : Hp} {Q : VK} {E : XK} {a q : Addr} {D : MD}
theorem StepsOk.ex0 {kt : List (List Key × V)} (e : Ex [] H H') (h : StepsOk K H kt D) : StepsOk K H' kt D := fun i hi c hc => by
  obtain ⟨p, h1, h2⟩ := h i hi c hc
  exact ⟨p, h1, e.sqT (by simp) h2⟩
theorem StepsOk.exP {kt : List (List Key × V)} (hp : PoolAt H a) (e : Ex [a] H H') (h : StepsOk K H kt D) : StepsOk K H' kt D := fun i hi c hc => by
  obtain ⟨p, h1, h2⟩ := h i hi c hc
  exact ⟨p, h1, sqT_pool hp e h2⟩
theorem lawP_name_in {r : Int} (h0 : 0 ≤ r) (h1 : r < 26) : ∃ c, MRK[r.toNat]? = some c ∧ c ∈ LET := let_in h0 h1
theorem pure_lawP_names (h : sp_lawP_names K vs H Q E) : t_lawP_names K (E1 Q) (start ["_law_purse_here", "_law_length", "_law_signs_here", "_law_found", "_law_k", "_law_size", "_law_called", "_law_spare", "_law_j", "_law_one"] vs) H := by
  obtain ⟨a, m, rfl, m1, m6, hp, k⟩ := h
  show t_lawP_names K (E1 Q) [some (.ref a), some (.int m), none, none, none, none, none, none, none, none] H
  unfold t_lawP_names
  walk_at "go"
  rename_i f H1 nf e1 z1
  have hfa : f ≠ a := fun z => hp.there (z ▸ nf)
  refine for_run walk_range (fun i σ G => ∃ (ns : List (List Nat)) (x4 x5 x6 x7 x8 x9 : Option V), σ = [some (.ref a), some (.int m), some (vS MRK), some (.ref f), x4, x5, x6, x7, x8, x9] ∧ ns.length = i ∧ ns.Nodup ∧ (∀ n ∈ ns, isName n) ∧ Ex [a] H G ∧ PoolAt G a ∧ G f = some (.lst (ns.map vS))) ⟨[], none, none, none, none, none, none, rfl, rfl, by simp, by simp, e1.wide, hp.ex e1 (by simp), z1⟩ (fun _ _ _ _ _ => trivial) ?_ ?_
  · rintro i v σ G G2 hi ⟨ns, x4, x5, x6, x7, x8, x9, rfl, hl, hd, hn, e2, p2, h2⟩ ⟨rfl, rfl⟩
    walk_at "go"
    rename_i l G3 nl e3 z3 r G4 r0 r1 e4 p4
    have hla : l ≠ a := fun z => p2.there (z ▸ nl)
    obtain ⟨sz, hsz, sz0, sz7⟩ : ∃ sz : Int, atI [V.int 0, .int 0, .int 1, .int 2, .int 7] r = some (.int sz) ∧ 0 ≤ sz ∧ sz ≤ 7 := by
      have hr : r = 0 ∨ r = 1 ∨ r = 2 ∨ r = 3 ∨ r = 4 := by omega
      rcases hr with rfl | rfl | rfl | rfl | rfl
      · exact ⟨0, rfl, by omega, by omega⟩
      · exact ⟨0, rfl, by omega, by omega⟩
      · exact ⟨1, rfl, by omega, by omega⟩
      · exact ⟨2, rfl, by omega, by omega⟩
      · exact ⟨7, rfl, by omega, by omega⟩
    refine s_ixL (SqL.of (e4.get (by simpa using hla) z3)) hsz ?_
    have e04 : Ex [a] G2 G4 := e3.wide.trans e4
    have h4 := e04.get (by simpa using hfa) h2
    clear e3 e4 z3 nl hla hsz r0 r1
    walk_at "go"
    rename_i r2 G5 r20 r21 e5 p5
    obtain ⟨c, hc, hcl⟩ := let_in r20 r21
    refine s_ixS (by decide) (atI_of r20 hc) ?_
    walk_at "go"
    refine lc_run walk_range (by omega) [a] (fun H2 => PoolAt H2 a) (fun i acc _ => ∃ ls : List Nat, acc = ls.map (fun c => vS [c]) ∧ ls.length = i ∧ ∀ c ∈ ls, c ∈ MRK) (fun b hb => by rw [List.mem_singleton.mp hb]; exact p5.there) p5 ⟨[], rfl, rfl, by simp⟩
      (fun H2 D o n h => h.upd n) (fun _ _ _ _ _ _ h => h) (fun _ _ => trivial) ?_ ?_
    · rintro j acc x J J2 C1 C0 hj eJ pJ ⟨ls, rfl, hls, hin⟩ ⟨rfl, rfl⟩ k1 k0
      refine ⟨wipe1 _ _ _, ?_⟩
      refine s_yes ?_
      walk_at "go"
      rename_i r3 J3 r30 r31 e6 p6
      obtain ⟨d, hd', hdm⟩ := mrk_in r30 r31
      refine s_ixS (by decide) (atI_of r30 hd') ?_
      refine k1 _ _ e6 p6 ⟨ls ++ [d], by rw [List.map_append]; rfl, by rw [List.length_append, hls]; rfl, fun x hx => ?_⟩
      rcases List.mem_append.mp hx with hx | hx
      · exact hin x hx
      · rw [List.mem_singleton.mp hx]; exact hdm
    rintro D J ys hD eJ pJ hdJ hyl ⟨ls, rfl, hls, hin⟩
    have hfl := flat1' ls
    refine s_join0 (ls := ls.map fun c => [c]) (by rw [List.map_map]; exact SqL.of hdJ) (by rw [hfl]; omega) ?_
    rw [hfl]
    refine s_addS (Nat.le_trans (m := 100) (by simp; omega) (by decide)) ?_
    have hn0 : isName ([c] ++ ls) := ⟨by simp, by simp; omega, ⟨c, ls, rfl, hcl⟩, fun x hx => by
      rcases List.mem_append.mp hx with hx | hx
      · rw [List.mem_singleton.mp hx]; exact let_mrk hcl
      · exact hin x hx⟩
    generalize [c] ++ ls = n0 at hn0
    have e2J : Ex [a] G2 J := e04.trans (e5.trans eJ)
    have hJ := e2J.get (by simpa using hfa) h2
    clear e04 e5 eJ hdJ hD hyl hls hin hfl hc hcl p4 p5 h4 r20 r21
    walk_at "go"
    rename_i l2 J2 nl2 e6 z6
    refine lc_mapR (by omega) (fun j => vS [115, 48 + j]) (fun j J3 C hj e7 kc => ?_) fun D J3 hD e7 z7 => ?_
    · walk_at "go"
      rw [show ((0 : Int) + (j : Nat)) = ((j : Nat) : Int) by omega]
      refine s_strI (by omega) ?_
      walk_at "go"
      exact kc _ Ex.rfl
    refine s_cat (e7.get0 z6) z7 (Nat.le_trans (m := 100) (by simp; omega) (by decide)) fun l3 J4 nl3 e8 z8 => ?_
    have hls : ([vS n0] ++ (List.range m.toNat).map fun j => vS [115, 48 + j]) = (n0 :: (List.range m.toNat).map fun j => [115, 48 + j]).map vS := by
      rw [List.map_cons, List.map_map]
      rfl
    rw [hls] at z8
    have e68 := e6.trans (e7.trans e8)
    have hJ4 := e68.get0 hJ
    walk_at "go"
    refine lc_fm8 (ls := n0 :: (List.range m.toNat).map fun j => [115, 48 + j]) (SqL.of z8) (by simp; omega) (fun l => !decide (l ∈ ns)) vS (fun l J5 C1 C0 hl e9 k1 k0 => ?_) (fun D2 J5 hD2 e9 z9 => ?_)
    · walk_at "go"
      refine s_notInL (SqL.of (e9.get0 hJ4)) ?_
      walk_at "go"
      refine s_2 (fun hb => ?_) (fun hb => ?_)
      · walk_at "go"
        exact k1 _ Ex.rfl hb
      · exact k0 _ Ex.rfl hb
    have hmem : ∀ l ∈ (n0 :: (List.range m.toNat).map fun j => [115, 48 + j]), isName l := fun l hl => by
      rcases List.mem_cons.mp hl with rfl | hl
      · exact hn0
      · obtain ⟨j, hj, rfl⟩ := List.mem_map.mp hl
        have hj := List.mem_range.mp hj
        refine ⟨by simp, by simp, ⟨115, [48 + j], rfl, by decide⟩, fun x hx => ?_⟩
        rcases List.mem_cons.mp hx with rfl | hx
        · decide
        · rw [List.mem_singleton.mp hx]
          exact List.mem_append_right _ (by
            have : j = 0 ∨ j = 1 ∨ j = 2 ∨ j = 3 ∨ j = 4 ∨ j = 5 := by omega
            rcases this with rfl | rfl | rfl | rfl | rfl | rfl <;> decide)
    obtain ⟨l0, rest, hfl⟩ : ∃ l0 rest, (n0 :: (List.range m.toNat).map fun j => [115, 48 + j]).filter (fun l => !decide (l ∈ ns)) = l0 :: rest := by
      refine List.exists_cons_of_ne_nil fun hnil => ?_
      have hall : ∀ l ∈ (List.range m.toNat).map (fun j => [115, 48 + j]), l ∈ ns := fun l hl => by
        have := List.filter_eq_nil_iff.mp hnil l (List.mem_cons_of_mem _ hl)
        simpa using this
      have hnd : ((List.range m.toNat).map (fun j => [115, 48 + j])).Nodup := List.pairwise_map.mpr (List.Pairwise.imp (fun {a b} hab e => hab (by
        have := (List.cons.inj (List.cons.inj e).2).1
        omega)) (List.nodup_range (n := m.toNat)))
      have := nodup_le _ ns hnd hall
      rw [List.length_map, List.length_range] at this
      omega
    rw [hfl] at z9
    have hm0 : l0 ∈ (n0 :: (List.range m.toNat).map fun j => [115, 48 + j]).filter (fun l => !decide (l ∈ ns)) := by rw [hfl]; exact List.mem_cons_self
    obtain ⟨hm1, hm2⟩ := List.mem_filter.mp hm0
    have hm2 : l0 ∉ ns := by simpa using hm2
    have e69 := e68.trans e9
    have h5 := e69.get0 hJ
    have p9 := pJ.ex e69 (by simp)
    walk_at "go"
    refine s_ixL (v := vS l0) (SqL.of z9) (atI_of (by decide) rfl) ?_
    walk_at "go"
    refine s_append h5 (Nat.lt_of_le_of_lt (show _ ≤ 100 by simp; omega) (by decide)) fun J6 e10 z10 => ?_
    refine ⟨ns ++ [l0], _, _, _, _, _, _, rfl, by simp [hl], ?_, fun l hl => ?_, Ex.dropN nf (e2.trans (e2J.trans e69.wide)) e10, p9.ex e10 (by simpa using Ne.symm hfa), by rw [z10, List.map_append]; rfl⟩
    · exact List.nodup_append.mpr ⟨hd, by simp, fun x hx y hy z => hm2 (by rw [List.mem_singleton.mp hy] at z; rw [← z]; exact hx)⟩
    · rcases List.mem_append.mp hl with hl | hl
      · exact hn l hl
      · rw [List.mem_singleton.mp hl]; exact hmem l0 hm1
  · rintro σ G ⟨ns, x4, x5, x6, x7, x8, x9, rfl, hl, hd, hn, e2, p2, h2⟩
    walk_at "go"
    exact k ns f _ ⟨by omega, by omega, hd, hn⟩ (by omega) nf e2 p2 h2
/-- an entry of the steps -/
def SE1 (K : PySem.W.Frag) (H : Hp) (n : Nat) (kt : List (List Key × V)) (i c : Nat) : Prop := ∃ (z : Nat × Int) (p : Addr), valV kt [kI i, kS [c]] = some (.ref p) ∧ SqT K H p [.int (z.1 : Nat), .int z.2] ∧ z.1 < n ∧ z.2.natAbs ≤ 2 ^ 200
structure PSt (K : PySem.W.Frag) (H0 : Hp) (a ss : Addr) (n : Nat) (R : Nat → Nat → Prop) (m : Nat) (H : Hp) : Prop where
  ex : Ex [a] H0 H
  pool : PoolAt H a
  tb : ∃ kt, H ss = some (.dT kt) ∧ kt.length ≤ m ∧ ∀ i c, R i c → SE1 K H n kt i c
section
variable {H0 : Hp} {ss : Addr} {n m : Nat} {R : Nat → Nat → Prop}
theorem PSt.ex0 (e : Ex [] H H') (h : PSt K H0 a ss n R m H) : PSt K H0 a ss n R m H' := by
  obtain ⟨h1, h2, kt, h4, h5, h6⟩ := h
  refine ⟨h1.trans e.wide, h2.ex e (by simp), kt, e.get0 h4, h5, fun b c d => ?_⟩
  obtain ⟨z, p, z1, z2, z3⟩ := h6 b c d
  exact ⟨z, p, z1, e.sqT (by simp) z2, z3⟩
theorem PSt.draw (e : Ex [a] H H') (hp : PoolAt H' a) (h : PSt K H0 a ss n R m H) : PSt K H0 a ss n R m H' := by
  obtain ⟨h1, h2, kt, h4, h5, h6⟩ := h
  have h2' := h2
  obtain ⟨y1, y2, y3, hq⟩ := h2'
  refine ⟨h1.trans e, hp, kt, e.get ?_ h4, h5, fun b c d => ?_⟩
  · simp only [List.mem_singleton]; intro w; rw [w, hq] at h4; cases h4
  · obtain ⟨z, p, z1, z2, z3⟩ := h6 b c d
    exact ⟨z, p, z1, sqT_pool h2 e z2, z3⟩
/-- a list of its own changes -/
theorem PSt.lst {l : Addr} {xs : List V} (hl : H l = some (.lst xs)) (h0 : H0 l = none) (hla : l ≠ a) (e : Ex [l] H H') (h : PSt K H0 a ss n R m H) : PSt K H0 a ss n R m H' := by
  obtain ⟨h1, h2, kt, h4, h5, h6⟩ := h
  refine ⟨Ex.dropN h0 h1 e, h2.ex e (by simpa using Ne.symm hla), kt, e.get ?_ h4, h5, fun b c d => ?_⟩
  · simp only [List.mem_singleton]; intro w; rw [w, hl] at h4; cases h4
  · obtain ⟨z, p, z1, z2, z3⟩ := h6 b c d
    exact ⟨z, p, z1, sqT_lst hl e z2, z3⟩
theorem PSt.put {k0 p : Addr} {i c y : Nat} {z : Int} (h : PSt K H0 a ss n R m H) (hss : H0 ss = none) (hm : m ≤ 1000) (hk : H k0 = some (.tup [.int (i : Nat), vS [c]])) (hp : SqT K H p [.int (y : Nat), .int z]) (hy : y < n) (hz : z.natAbs ≤ 2 ^ 200) :
    ∃ H4, DPut H ss (.ref k0) (.ref p) H4 ∧ PSt K H0 a ss n (fun b d => R b d ∨ (b = i ∧ d = c)) (m + 1) H4 := by
  obtain ⟨h1, h2, kt, h4, h5, h6⟩ := h
  have h2' := h2
  obtain ⟨y1, y2, y3, hq⟩ := h2'
  have e : Ex [ss] H (upd H ss (.dT (putK kt [kI i, kS [c]] (.ref p)))) := Ex.put (by simp)
  have keep : ∀ {t : Addr} {xs : List V}, SqT K H t xs → SqT K (upd H ss (.dT (putK kt [kI i, kS [c]] (.ref p)))) t xs := fun h => sqT_non h4 (fun _ w => by cases w) (fun _ _ w => by cases w) e h
  refine ⟨_, DPut.t h4 (k := [kI i, kS [c]]) hk (Nat.lt_of_le_of_lt (Nat.le_trans h5 hm) (by decide)), Ex.dropN hss h1 e, ?_, _, upd_same, Nat.le_trans (length_putK _ _ _) (by omega), fun b d hbd => ?_⟩
  · exact h2.ex e (by simp only [List.mem_singleton]; intro w; rw [← w, hq] at h4; cases h4)
  · by_cases hk : b = i ∧ d = c
    · obtain ⟨rfl, rfl⟩ := hk
      exact ⟨(y, z), p, by rw [valV_put, if_pos rfl], keep hp, hy, hz⟩
    · obtain ⟨z', p', z1, z2, z3⟩ := h6 b d (hbd.resolve_right hk)
      refine ⟨z', p', ?_, keep z2, z3⟩
      rw [valV_put, if_neg, z1]
      intro w
      have w1 := List.cons.inj w
      have w2 := List.cons.inj w1.2
      have w3 : ((b : Nat) : Int) = ((i : Nat) : Int) := Sum.inl.inj w1.1
      exact hk ⟨by omega, by have := kS_inj w2.1; simpa using this⟩
theorem PSt.weak {R' : Nat → Nat → Prop} {m' : Nat} (h : PSt K H0 a ss n R m H) (h1 : ∀ b c, R' b c → R b c) (h3 : m ≤ m') : PSt K H0 a ss n R' m' H := by
  obtain ⟨z1, z2, kt, h4, h5, h6⟩ := h
  exact ⟨z1, z2, kt, h4, by omega, fun b c d => h6 b c (h1 b c d)⟩
end
theorem kS_iff {x y : List Nat} : kS x = kS y ↔ x = y := ⟨kS_inj, fun h => by rw [h]⟩
/-- some of a range -/
theorem lc_subR {n j : Nat} {tt : TT} {σ : St} (hj : j < σ.length) (hn : n ≤ 100000) (hp : PoolAt H a)
    (h : ∀ (x : Nat) (H1 : Hp) (R : Bool → Hp → Prop), x < n → Ex [a] H H1 → PoolAt H1 a → (∀ c H2, Ex [a] H1 H2 → PoolAt H2 a → R c H2) → tt ((wipe σ [j]).set j (some (.int (0 + (x : Nat))))) H1 R)
    (k : ∀ D H' (ms : List Nat), H D = none → Ex [a] H H' → PoolAt H' a → ms.Sublist (List.range n) → H' D = some (.lst (ms.map fun y => V.int (y : Nat))) → Q (.ref D) H') : LcW (Itr 0 n) (gName j) tt (tVar j) [j] σ H Q := by
  refine lc_run walk_range hn [a] (fun H1 => PoolAt H1 a) (fun i acc _ => ∃ ms : List Nat, acc = ms.map (fun y => V.int (y : Nat)) ∧ ms.Sublist (List.range i)) (fun z hz => by rw [List.mem_singleton.mp hz]; exact hp.there) hp ⟨[], rfl, by simp⟩ (fun H1 D o nD r => r.upd nD) (fun _ _ _ _ _ _ h => h) (fun _ _ => trivial) ?_ ?_
  · rintro i acc x H1 H2 C1 C0 hi e r ⟨ms, rfl, hms⟩ ⟨rfl, rfl⟩ k1 k0
    refine ⟨wipe1 _ _ _, ?_⟩
    refine h i _ _ hi e r fun c H3 e3 r3 => ?_
    have hsub : (List.range i).Sublist (List.range (i + 1)) := by rw [List.range_succ]; exact List.sublist_append_left _ _
    refine s_2 (fun _ => ?_) (fun _ => ?_)
    · refine ⟨.int (0 + (i : Nat)), ?_, k1 _ _ e3 r3 ⟨ms ++ [i], by simp, ?_⟩⟩
      · show ((σ.set j none).set j (some (.int (0 + (i : Nat)))))[j]? = _
        rw [List.set_set, List.getElem?_set_self hj]
      · rw [List.range_succ]
        exact hms.append (List.Sublist.refl _)
    · exact k0 _ e3 r3 ⟨ms, rfl, hms.trans hsub⟩
  · rintro D H' ys hD e r hd _ ⟨ms, rfl, hms⟩
    exact k D H' ms hD e r hms hd
theorem pure_lawP_model (h : sp_lawP_model K vs H Q E) : t_lawP_model K (E1 Q) (start ["_law_purse_here", "_law_size", "_law_signs_here", "_law_great", "_law_way", "_law_steps", "_law_turn", "_law_sign", "_law_goal", "_law_state", "_law_later", "_law_ends", "_law_yes_list"] vs) H := by
  obtain ⟨a, n, s, g, rfl, hs, hsrt, n1, n6, hp, k⟩ := h
  show t_lawP_model K (E1 Q) [some (.ref a), some (.int n), some (vS s), some (.bl g), none, none, none, none, none, none, none, none, none] H
  unfold t_lawP_model
  have hsl := hs.2.1
  walk_at "go"
  rename_i way H1 w0 w1 e1 p1
  refine s_dnewT fun ss H2 nss e2 h2 => ?_
  have hssa : ss ≠ a := fun z => p1.there (z ▸ nss)
  have hss0 : H ss = none := Ex.freeP p1 e1 nss
  have p2 := p1.ex e2 (by simp)
  walk_at "go"
  rename_i tn H3 t0 t1 e3 p3
  have m0 : PSt K H a ss n.toNat (fun i c => i < n.toNat ∧ c ∈ s.take 0) 0 H3 := ⟨(e1.trans e2.wide).trans e3, p3, [], e3.get (by simpa using hssa) h2, by simp, fun i c d => by simp at d⟩
  clear e1 e2 e3 p1 p2 p3 h2 nss hssa
  have wk := walk_str (z := S s)
  have hsz : (S s).cps.size = s.length := by simp [S]
  rw [hsz] at wk
  refine for_run wk (fun j σ G => ∃ x7 x8 x9 x10, σ = [some (.ref a), some (.int n), some (vS s), some (.bl g), some (.int way), some (.ref ss), some (.int tn), x7, x8, x9, x10, none, none] ∧ PSt K H a ss n.toNat (fun i c => i < n.toNat ∧ c ∈ s.take j) (j * 10) G) ⟨_, _, _, _, rfl, m0⟩ (fun _ _ _ _ _ => trivial) ?_ ?_
  · rintro j y σ G G2 hj ⟨x7, x8, x9, x10, rfl, mj⟩ ⟨rfl, c, hc, ev⟩
    have ev : y = vS [c] := ev
    subst ev
    have hc : s[j]? = some c := by simpa [S] using hc
    have ht1 : s.take (j + 1) = s.take j ++ [c] := by rw [List.take_add_one, hc]; rfl
    rw [ht1]
    have pj := mj.pool
    walk_at "go"
    rename_i gl G3 g0 g1 e3 p3
    have m3 := mj.draw e3 p3
    clear mj pj e3 p3
    refine for_run walk_range (fun i σ J => ∃ x9 x10, σ = [some (.ref a), some (.int n), some (vS s), some (.bl g), some (.int way), some (.ref ss), some (.int tn), some (vS [c]), some (.int gl), x9, x10, none, none] ∧ PSt K H a ss n.toNat (fun i' c' => (i' < n.toNat ∧ c' ∈ s.take j) ∨ (i' < i ∧ c' = c)) (j * 10 + i) J) ⟨_, _, rfl, m3.weak (fun i' c' hh => hh.resolve_right fun w => by omega) (by omega)⟩ (fun _ _ _ _ _ => trivial) ?_ ?_
    · rintro i v σ J J2 hi ⟨x9, x10, rfl, mi⟩ ⟨rfl, rfl⟩
      refine s_gName ?_
      refine s_seq ?_
      refine s_asg ?_
      refine cutpt (fun v G => ∃ z : Nat, v = .int (z : Nat) ∧ z < n.toNat ∧ PSt K H a ss n.toNat (fun i' c' => (i' < n.toNat ∧ c' ∈ s.take j) ∨ (i' < i ∧ c' = c)) (j * 10 + i) G) (fun Q' kq => ?_) ?_
      · walk_at "go"
        rename_i l0 J3 nl0 e4 z4
        have m4 := mi.ex0 e4
        have p4 := m4.pool
        refine s_inI (SqL.of (K := K) (xs := [0, 4].map V.int) z4) ?_
        walk_at "go"
        refine s_2 (fun hb => ?_) (fun hb => ?_)
        · walk_at "go"
          rename_i r J4 r0 r1 e5 p5
          exact kq _ _ ⟨r.toNat, by rw [Int.toNat_of_nonneg r0], by omega, m4.draw e5 p5⟩
        · walk_at "go"
          have hm0 := Int.emod_nonneg ((0 : Int) + (i : Nat) + gl) (show n ≠ 0 by omega)
          have hm1 := Int.emod_lt_of_pos ((0 : Int) + (i : Nat) + gl) (show 0 < n by omega)
          exact kq _ _ ⟨(((0 : Int) + (i : Nat) + gl) % n).toNat, by rw [Int.toNat_of_nonneg hm0], by omega, m4⟩
      rintro v J3 ⟨z, rfl, hz, m4⟩
      refine s_gName ?_
      refine s_seq ?_
      refine s_asg ?_
      refine cutpt (fun v G => G = J3 ∧ ∃ z : Nat, v = .int (z : Nat) ∧ z < n.toNat) (fun Q' kq => ?_) ?_
      · walk_at "go"
        refine s_2 (fun hb => ?_) (fun hb => ?_)
        · walk_at "go"
          exact kq _ _ ⟨rfl, gl.toNat, by rw [Int.toNat_of_nonneg g0], by omega⟩
        · walk_at "go"
          exact kq _ _ ⟨rfl, z, rfl, hz⟩
      rintro v G5 ⟨rfl, z2, rfl, hz2⟩
      refine s_gName ?_
      refine s_dput ?_
      refine s_tup (s_cons (s_var rfl (s_cons (s_call (s_cons (s_var rfl (s_cons (s_var rfl (s_nil ?_)))))))))
      refine u_amountP m4.pool fun am G6 ham e6 p6 => ?_
      have m6 := m4.draw e6 p6
      refine s_nil (s_alloc (by show 2 ≤ sizeLine; decide) fun p G7 np e7 z7 => ?_)
      walk_at "go"
      rename_i k0 G8 nk e8 z8
      have e78 := e7.trans e8
      have z8 : G8 k0 = some (.tup [.int ((i : Nat) : Int), vS [c]]) := by
        rw [z8]
        show some (HO.tup [.int ((0 : Int) + (i : Nat)), vS [c]]) = _
        rw [Int.zero_add]
      obtain ⟨G9, d9, m9⟩ := ((m6.ex0 e7).ex0 e8).put hss0 (by omega) z8 (SqT.of (e8.get0 z7)) hz2 ham
      refine ⟨ss, G9, rfl, d9, _, _, rfl, m9.weak (fun i' c' hh => ?_) (by omega)⟩
      rcases hh with hh | ⟨h1, h2⟩
      · exact .inl (.inl hh)
      · by_cases e : i' = i
        · exact .inr ⟨e, h2⟩
        · exact .inl (.inr ⟨by omega, h2⟩)
    · rintro σ J ⟨x9, x10, rfl, mi⟩
      refine ⟨_, _, _, _, rfl, mi.weak (fun i' c' hh => ?_) (by omega)⟩
      rcases List.mem_append.mp hh.2 with h | h
      · exact .inl ⟨hh.1, h⟩
      · exact .inr ⟨hh.1, List.mem_singleton.mp h⟩
  · rintro σ G ⟨x7, x8, x9, x10, rfl, mj⟩
    rw [List.take_length] at mj
    walk_at "go"
    rename_i ee G1 nee e1 z1
    have hee0 : H ee = none := Ex.freeP mj.pool mj.ex nee
    have heea : ee ≠ a := fun z => hp.there (z ▸ hee0)
    have hees : ee ≠ ss := fun z => by
      obtain ⟨kt, h, _⟩ := mj.tb
      rw [← z, nee] at h
      cases h
    have m1 := mj.ex0 e1
    clear mj e1 nee
    refine for_run walk_range (fun i σ J => ∃ (es : List (Nat × Int)) (xs : List V) (x7 x8 x9 x10 : Option V), σ = [some (.ref a), some (.int n), some (vS s), some (.bl g), some (.int way), some (.ref ss), some (.int tn), x7, x8, x9, x10, some (.ref ee), none] ∧ PSt K H a ss n.toNat (fun i c => i < n.toNat ∧ c ∈ s) (s.length * 10) J ∧ es.length = i ∧ (∀ z ∈ es, z.1 < n.toNat ∧ z.2.natAbs ≤ 2 ^ 200) ∧ J ee = some (.lst xs) ∧ Tups K J xs (es.map fun z => [V.int (z.1 : Nat), .int z.2])) ⟨[], [], _, _, _, _, rfl, m1, rfl, by simp, z1, Tups.nil⟩ (fun _ _ _ _ _ => trivial) ?_ ?_
    · rintro i v σ J J2 hi ⟨es, xs, x7, x8, x9, x10, rfl, mi, hel, hes, zi, ti⟩ ⟨rfl, rfl⟩
      have tupsP : ∀ {J J' : Hp} {xs : List V} {ls : List (List V)}, PoolAt J a → Ex [a] J J' → Tups K J xs ls → Tups K J' xs ls := fun hp e t => ⟨t.1, fun i x l h1 h2 => by
        obtain ⟨p, h3, h4⟩ := t.2 i x l h1 h2
        exact ⟨p, h3, sqT_pool hp e h4⟩⟩
      refine s_gName ?_
      refine s_seq ?_
      refine s_asg ?_
      refine cutpt (fun v G => ∃ z : Nat, v = .int (z : Nat) ∧ z < n.toNat ∧ PSt K H a ss n.toNat (fun i c => i < n.toNat ∧ c ∈ s) (s.length * 10) G ∧ G ee = some (.lst xs) ∧ Tups K G xs (es.map fun z => [V.int (z.1 : Nat), .int z.2])) (fun Q' kq => ?_) ?_
      · have pi := mi.pool
        walk_at "go"
        refine s_2 (fun hb => ?_) (fun hb => ?_)
        · walk_at "go"
          rename_i r J4 r0 r1 e5 p5
          exact kq _ _ ⟨r.toNat, by rw [Int.toNat_of_nonneg r0], by omega, mi.draw e5 p5, e5.get (by simpa using heea) zi, tupsP pi e5 ti⟩
        · walk_at "go"
          exact kq _ _ ⟨i, by show V.int ((0 : Int) + (i : Nat)) = _; rw [Int.zero_add], by omega, mi, zi, ti⟩
      rintro v J3 ⟨z, rfl, hz, m3, z3, t3⟩
      refine s_gName ?_
      refine s_drop (s_bm (s_var rfl (s_tyL z3 (s_cons (s_tup (s_cons ?_))))))
      refine cutpt (fun v G => G = J3 ∧ ∃ z : Nat, v = .int (z : Nat) ∧ z < n.toNat) (fun Q' kq => ?_) ?_
      · walk_at "go"
        refine s_2 (fun hb => ?_) (fun hb => ?_)
        · walk_at "go"
          exact kq _ _ ⟨rfl, tn.toNat, by rw [Int.toNat_of_nonneg t0], by omega⟩
        · walk_at "go"
          exact kq _ _ ⟨rfl, z, rfl, hz⟩
      rintro v G5 ⟨rfl, z2, rfl, hz2⟩
      refine s_cons ?_
      refine cutpt (fun v G => ∃ am : Int, v = .int am ∧ am.natAbs ≤ 2 ^ 200 ∧ PSt K H a ss n.toNat (fun i c => i < n.toNat ∧ c ∈ s) (s.length * 10) G ∧ G ee = some (.lst xs) ∧ Tups K G xs (es.map fun z => [V.int (z.1 : Nat), .int z.2])) (fun Q' kq => ?_) ?_
      · have p3 := m3.pool
        walk_at "go"
        rename_i r J4 r0 r1 e5 p5
        have m5 := m3.draw e5 p5
        have z5 := e5.get (by simpa using heea) z3
        have t5 := tupsP p3 e5 t3
        refine s_2 (fun hb => ?_) (fun hb => ?_)
        · walk_at "go"
          refine u_amountP p5 fun am G6 ham e6 p6 => ?_
          exact kq _ _ ⟨am, rfl, ham, m5.draw e6 p6, e6.get (by simpa using heea) z5, tupsP p5 e6 t5⟩
        · walk_at "go"
          exact kq _ _ ⟨0, rfl, by decide, m5, z5, t5⟩
      rintro v G6 ⟨am, rfl, ham, m6, z6, t6⟩
      refine s_nil (s_alloc (by show 2 ≤ sizeLine; decide) fun p G7 np e7 z7 => ?_)
      refine s_nil ?_
      refine s_append (e7.get0 z6) (Nat.lt_of_le_of_lt (show _ ≤ 100 by rw [t6.1, List.length_map]; omega) (by decide)) fun G8 e8 z8 => ?_
      refine ⟨es ++ [(z2, am)], xs ++ [.ref p], _, _, _, _, rfl, (m6.ex0 e7).lst (e7.get0 z6) hee0 heea e8, by simp [hel], fun z hz => ?_, z8, ?_⟩
      · rcases List.mem_append.mp hz with hz | hz
        · exact hes z hz
        · rw [List.mem_singleton.mp hz]; exact ⟨hz2, ham⟩
      · rw [List.map_append]
        have t7 := t6.ex0 e7
        refine Tups.snoc (⟨t7.1, fun i x l h1 h2 => ?_⟩) (sqT_lst (e7.get0 z6) e8 (SqT.of z7))
        obtain ⟨p', h3, h4⟩ := t7.2 i x l h1 h2
        exact ⟨p', h3, sqT_lst (e7.get0 z6) e8 h4⟩
    · rintro σ J ⟨es, xs, x7, x8, x9, x10, rfl, mi, hel, hes, zi, ti⟩
      refine s_seq (s_asg (s_lc (s_rng1 (s_cons (s_var rfl (s_nil ?_))))))
      refine s_rng1i (by constructor <;> omega) ?_
      refine lc_subR (a := a) (by simp) (by omega) mi.pool (fun x J1 R hx eJ pJ kr => ?_) fun yy J1 ys nyy eJ pJ hsub zy => ?_
      · walk_at "go"
        rename_i r J2 r0 r1 e2 p2
        exact kr _ _ e2 p2
      have m1' := mi.draw eJ pJ
      have zi' := eJ.get (by simpa using heea) zi
      have ti' : Tups K J1 xs (es.map fun z => [V.int (z.1 : Nat), .int z.2]) := ⟨ti.1, fun i x l h1 h2 => by
        obtain ⟨p, h3, h4⟩ := ti.2 i x l h1 h2
        exact ⟨p, h3, sqT_pool mi.pool eJ h4⟩⟩
      have hyya : yy ≠ a := fun z => mi.pool.there (z ▸ nyy)
      refine s_gName ?_
      refine s_ret ?_
      intro q hq
      have hqa : q ≠ a := fun z => pJ.there (z ▸ hq)
      have hq0 : H q = none := Ex.freeP pJ m1'.ex hq
      have e2 : Ex [] J1 (upd J1 q (.dK [])) := Ex.new hq
      have z2 : (upd J1 q (.dK [])) q = some (.dK []) := upd_same
      revert e2 z2
      generalize upd J1 q (.dK []) = J2
      intro e2 z2
      refine s_cS litP2_115_105_103_110_115 (s_var rfl ?_)
      refine s_cS litP2_115_116_101_112_115 (s_var rfl ?_)
      refine s_cS litP2_101_110_100_115 (s_var rfl ?_)
      refine s_cS litP2_121_101_115 (s_var rfl ?_)
      refine s_cS litP2_110_97_109_101_115 ?_
      refine s_call (s_cons (s_var rfl (s_cons (s_var rfl (s_nil ?_)))))
      have m2 := m1'.ex0 e2
      refine u_namesP (by omega) (by omega) m2.pool fun nm nn J3 hnm hnl nnn e3 p3 z3 => ?_
      have m3 := m2.draw e3 p3
      obtain ⟨kt, k1, k2, k3⟩ := m3.tb
      refine ⟨e3.get (by simpa using hqa) z2, [(kS sSigns, vS s), (kS sSteps, .ref ss), (kS sEnds, .ref ee), (kS sYes, .ref yy), (kS sNames, .ref nn)], rfl, by simp, ?_⟩
      have nq3 : J3 q = some (.dK []) := e3.get (by simpa using hqa) z2
      have e4 : Ex [q] J3 (upd J3 q (.dK (mergeK [] [(kS sSigns, vS s), (kS sSteps, .ref ss), (kS sEnds, .ref ee), (kS sYes, .ref yy), (kS sNames, .ref nn)]))) := Ex.put (by simp)
      have z4 : (upd J3 q (.dK (mergeK [] [(kS sSigns, vS s), (kS sSteps, .ref ss), (kS sEnds, .ref ee), (kS sYes, .ref yy), (kS sNames, .ref nn)]))) q = some (.dK (mergeK [] [(kS sSigns, vS s), (kS sSteps, .ref ss), (kS sEnds, .ref ee), (kS sYes, .ref yy), (kS sNames, .ref nn)])) := upd_same
      revert e4 z4
      generalize upd J3 q (.dK (mergeK [] [(kS sSigns, vS s), (kS sSteps, .ref ss), (kS sEnds, .ref ee), (kS sYes, .ref yy), (kS sNames, .ref nn)])) = J4
      intro e4 z4
      have keep : ∀ {t : Addr} {ys : List V}, SqT K J3 t ys → SqT K J4 t ys := fun h => sqT_non nq3 (fun _ w => by cases w) (fun _ _ w => by cases w) e4 h
      have get : ∀ {b : Addr} {o : HO}, J3 b = some o → b ≠ q → J4 b = some o := fun h hb => e4.get (by simpa using hb) h
      have cT : ∀ i c, i < n.toNat → c ∈ s → ∃ p, valV kt [kI i, kS [c]] = some (.ref p) ∧ SqT K J4 p [.int ((Classical.epsilon fun z : Nat × Int => ∃ p, valV kt [kI i, kS [c]] = some (.ref p) ∧ SqT K J4 p [.int (z.1 : Nat), .int z.2] ∧ z.1 < n.toNat ∧ z.2.natAbs ≤ 2 ^ 200).1 : Nat), .int (Classical.epsilon fun z : Nat × Int => ∃ p, valV kt [kI i, kS [c]] = some (.ref p) ∧ SqT K J4 p [.int (z.1 : Nat), .int z.2] ∧ z.1 < n.toNat ∧ z.2.natAbs ≤ 2 ^ 200).2] ∧ (Classical.epsilon fun z : Nat × Int => ∃ p, valV kt [kI i, kS [c]] = some (.ref p) ∧ SqT K J4 p [.int (z.1 : Nat), .int z.2] ∧ z.1 < n.toNat ∧ z.2.natAbs ≤ 2 ^ 200).1 < n.toNat ∧ (Classical.epsilon fun z : Nat × Int => ∃ p, valV kt [kI i, kS [c]] = some (.ref p) ∧ SqT K J4 p [.int (z.1 : Nat), .int z.2] ∧ z.1 < n.toNat ∧ z.2.natAbs ≤ 2 ^ 200).2.natAbs ≤ 2 ^ 200 := fun i c hi hc => Classical.epsilon_spec (p := fun z : Nat × Int => ∃ p, valV kt [kI i, kS [c]] = some (.ref p) ∧ SqT K J4 p [.int (z.1 : Nat), .int z.2] ∧ z.1 < n.toNat ∧ z.2.natAbs ≤ 2 ^ 200) (by
          obtain ⟨z, p, h1, h2, h3⟩ := k3 i c ⟨hi, hc⟩
          exact ⟨z, p, h1, keep h2, h3⟩)
      have hget : ∀ i, i < n.toNat → es[i]? = some (es.getD i (0, 0)) := fun i hi => by
        have h : i < es.length := by omega
        rw [List.getD_eq_getElem?_getD, List.getElem?_eq_getElem h]
        rfl
      have hen : (List.range n.toNat).map (fun i => [V.int ((es.getD i (0, 0)).1 : Nat), .int (es.getD i (0, 0)).2]) = es.map fun z => [V.int (z.1 : Nat), .int z.2] := by
        apply List.ext_getElem?
        intro i
        by_cases h : i < n.toNat
        · rw [List.getElem?_map, List.getElem?_range h, List.getElem?_map, hget i h]
          rfl
        · rw [List.getElem?_eq_none (by simp; omega), List.getElem?_eq_none (by simp; omega)]
      have hss3 : J3 ss = some (.dT kt) := k1
      have nez : ∀ {b : Addr} {o : HO}, J1 b = some o → b ≠ q := fun h z => by rw [z, hq] at h; cases h
      have hee3 : J3 ee = some (.lst xs) := e3.get (by simpa using heea) (e2.get0 zi')
      have hyy3 : J3 yy = some (.lst (ys.map fun y => V.int (y : Nat))) := e3.get (by simpa using hyya) (e2.get0 zy)
      have hnnq : nn ≠ q := fun z => by rw [z, z2] at nnn; cases nnn
      have hssq : ss ≠ q := fun z => by rw [z, nq3] at hss3; cases hss3
      have ti3 : Tups K J4 xs (es.map fun z => [V.int (z.1 : Nat), .int z.2]) := ⟨ti'.1, fun i x l h1 h2 => by
        obtain ⟨p, h3, h4⟩ := (ti'.ex0 e2).2 i x l h1 h2
        exact ⟨p, h3, keep (sqT_pool m2.pool e3 h4)⟩⟩
      have em : mergeK [] [(kS sSigns, vS s), (kS sSteps, .ref ss), (kS sEnds, .ref ee), (kS sYes, .ref yy), (kS sNames, .ref nn)] = putK (putK (putK (putK (putK [] (kS sSigns) (vS s)) (kS sSteps) (.ref ss)) (kS sEnds) (.ref ee)) (kS sYes) (.ref yy)) (kS sNames) (.ref nn) := rfl
      refine k q ⟨n.toNat, s, nm, fun i c => Classical.epsilon fun z : Nat × Int => ∃ p, valV kt [kI i, kS [c]] = some (.ref p) ∧ SqT K J4 p [.int (z.1 : Nat), .int z.2] ∧ z.1 < n.toNat ∧ z.2.natAbs ≤ 2 ^ 200, fun i => es.getD i (0, 0), ys⟩ J4 ⟨by show 1 ≤ n.toNat; omega, by show n.toNat ≤ 6; omega, hs, hsrt, hnm, by show nm.length = n.toNat; omega, fun i hi c hc => ?_, fun i hi => hes _ (List.mem_of_getElem? (hget i hi)), ⟨hsub.nodup List.nodup_range, fun y hy => List.mem_range.mp (hsub.subset hy)⟩⟩ (by show ((n.toNat : Nat) : Int) = n; omega) rfl hq0 (Ex.dropN hq0 m3.ex e4) (p3.ex e4 (by simpa using Ne.symm hqa)) ⟨_, ss, ee, yy, nn, kt, z4, ?_, ?_, ?_, ?_, ?_, ?_, get hss3 hssq, fun i hi c hc => ?_, ⟨xs, get hee3 (nez zi'), ?_⟩, get hyy3 (nez zy), get z3 hnnq⟩
      · obtain ⟨p, _, _, h⟩ := cT i c hi hc
        exact h
      · exact Nat.le_trans (length_mergeK _ _) (by simp)
      · rw [em]; simp [valV_put, kS_iff]
      · rw [em]; simp [valV_put, kS_iff]
      · rw [em]; simp [valV_put, kS_iff]
      · rw [em]; simp [valV_put, kS_iff]
      · rw [em]; simp [valV_put, kS_iff]
      · obtain ⟨p, h1, h2, _⟩ := cT i c hi hc
        exact ⟨p, h1, h2⟩
      · show Tups K J4 xs ((List.range n.toNat).map fun i => [V.int ((es.getD i (0, 0)).1 : Nat), .int (es.getD i (0, 0)).2])
        rw [hen]
        exact ti3
end
end WB
namespace WB
open PySem PySem.Spec PyProof.Rows L2
theorem litP3_110_97_109_101_115 : ("names" : Str) = S [110, 97, 109, 101, 115] := by decide +kernel
theorem litP3_101_110_100_115 : ("ends" : Str) = S [101, 110, 100, 115] := by decide +kernel
theorem litP3_115_105_103_110_115 : ("signs" : Str) = S [115, 105, 103, 110, 115] := by decide +kernel
theorem litP3_115_116_101_112_115 : ("steps" : Str) = S [115, 116, 101, 112, 115] := by decide +kernel
theorem litP3_121_101_115 : ("yes" : Str) = S [121, 101, 115] := by decide +kernel
local macro_rules | `(tactic| walk_at "lit") => `(tactic| first | exact litP3_110_97_109_101_115 | exact litP3_101_110_100_115 | exact litP3_115_105_103_110_115 | exact litP3_115_116_101_112_115 | exact litP3_121_101_115)
local macro_rules | `(tactic| walk_at "lit") => `(tactic| first | exact lit_abc | exact lit_empty)
local macro_rules | `(tactic| walk_at "nm") => `(tactic| focus first | exact List.not_mem_nil | (simp only [List.mem_singleton]; first | assumption | (exact Ne.symm (by assumption)) | (intro hz; subst hz; simp_all; done)))
local macro_rules | `(tactic| walk_at "hp") => `(tactic| first | assumption | (apply Ex.get0 (by assumption); walk_at "hp") | (apply Ex.get (by assumption); (walk_at "nm"); (walk_at "hp")))
local macro_rules | `(tactic| walk_at "sq") => `(tactic| first | assumption | (apply SqL.of; walk_at "hp") | (apply Ex.sqL (by assumption); (walk_at "nm"); (walk_at "sq")))
local macro_rules | `(tactic| walk_at "sqt") => `(tactic| first | assumption | (apply SqT.of; walk_at "hp") | (apply Ex.sqT (by assumption); (walk_at "nm"); (walk_at "sqt")))
local macro_rules | `(tactic| walk_at "sz") => `(tactic| focus ((with_reducible refine Nat.le_trans (m := 100000) ?_ (by decide)); first | omega | (simp; done) | (simp; omega)))
local macro_rules | `(tactic| walk_at "mul") => `(tactic| first | exact Or.inr ⟨by omega, by omega⟩ | exact Or.inl ⟨by omega, by omega⟩)
local macro_rules | `(tactic| walk_at "pool") => `(tactic| first | assumption | (apply PoolAt.ex (by assumption); (walk_at "nm"); (walk_at "pool")))
local macro_rules | `(tactic| walk_at "ring") => `(tactic| first | assumption | (apply RingAt.ex (by assumption); (walk_at "nm"); (walk_at "ring")))
local macro_rules | `(tactic| walk_at "st") => `(tactic| first
  | with_reducible refine s_seq ?_
  | with_reducible refine s_asg ?_
  | with_reducible refine s_gName ?_
  | with_reducible refine s_ret ?_
  | with_reducible refine s_ifS ?_
  | with_reducible refine s_next ?_
  | with_reducible refine s_op ?_
  | ((with_reducible apply s_var); exact rfl)
  | ((with_reducible apply s_cS); (walk_at "lit"))
  | with_reducible refine s_c ?_
  | with_reducible refine s_cb ?_
  | with_reducible refine s_cons ?_
  | with_reducible refine s_nil ?_
  | with_reducible refine s_un ?_
  | with_reducible refine s_call ?_
  | with_reducible refine s_test ?_
  | with_reducible refine s_tB ?_
  | with_reducible refine s_blQ ?_
  | with_reducible refine s_not ?_
  | with_reducible refine s_and ?_
  | with_reducible refine s_or ?_
  | with_reducible refine s_andV ?_
  | with_reducible refine s_orV ?_
  | with_reducible refine s_notV ?_
  | with_reducible refine s_ifE ?_
  | with_reducible refine s_chain ?_
  | ((with_reducible refine s_T ?_ ?_); (with_reducible exact rfl))
  | with_reducible refine s_nT ?_
  | with_reducible refine s_nF ?_
  | ((with_reducible refine s_F ?_ ?_); (with_reducible exact rfl))
  | ((with_reducible refine s_T ?_ ?_); assumption)
  | ((with_reducible refine s_F ?_ ?_); assumption)
  | ((with_reducible refine s_nB ?_ ?_); assumption)
  | ((with_reducible refine s_nA ?_ ?_); assumption)
  | ((with_reducible refine s_Td ?_ ?_); omega)
  | ((with_reducible refine s_Fd ?_ ?_); omega)
  | ((with_reducible refine s_nTd ?_ ?_); omega)
  | ((with_reducible refine s_nFd ?_ ?_); omega)
  | with_reducible refine s_sfld ?_
  | with_reducible refine s_addI ?_
  | with_reducible refine s_subI ?_
  | ((with_reducible refine s_mulI ?_ ?_); (walk_at "mul"))
  | ((with_reducible refine s_divI ?_ ?_); exact ⟨by omega, by omega⟩)
  | ((with_reducible refine s_modI ?_ ?_); omega)
  | ((with_reducible refine s_powI ?_ ?_); exact ⟨by decide, by decide, by decide⟩)
  | with_reducible refine s_ltI ?_
  | with_reducible refine s_leI ?_
  | with_reducible refine s_gtI ?_
  | with_reducible refine s_geI ?_
  | with_reducible refine s_negI ?_
  | with_reducible refine s_absI ?_
  | with_reducible refine s_intI ?_
  | with_reducible refine s_min2 ?_
  | with_reducible refine s_max2 ?_
  | with_reducible refine s_eqI ?_
  | with_reducible refine s_neI ?_
  | with_reducible refine s_eqS ?_
  | with_reducible refine s_neS ?_
  | with_reducible refine s_inSg ?_
  | with_reducible refine s_notInSg ?_
  | ((with_reducible refine s_addS ?_ ?_); (walk_at "sz"))
  | ((with_reducible refine s_lenS ?_ ?_); (walk_at "sz"))
  | ((with_reducible apply s_lenL); (walk_at "sq"))
  | ((with_reducible apply s_lenT); (walk_at "sqt"))
  | ((with_reducible apply s_ixL); (walk_at "sq"); exact rfl)
  | ((with_reducible apply s_ixT); (walk_at "sqt"); exact rfl)
  | with_reducible refine s_gSub ?_
  | ((with_reducible apply s_setL); (walk_at "hp"); (exact rfl); (intro _ _ _))
  | ((with_reducible refine s_alloc ?_ ?_); (walk_at "sz"); (intro _ _ _ _ _))
  | ((with_reducible refine s_divmod ?_ ?_); (exact ⟨by omega, PyProof.noPylong_small (by omega)⟩); (intro _ _ _ _ _))
  | ((with_reducible apply s_gTup); (walk_at "sqt"); (exact rfl))
  | ((with_reducible apply s_gLst); (walk_at "sq"); (exact rfl))
  | with_reducible refine s_gCons ?_
  | with_reducible refine s_gNil ?_
  | with_reducible refine s_lc ?_
  | ((with_reducible apply s_cat); (walk_at "hp"); (walk_at "hp"); (walk_at "sz"); (intro _ _ _ _ _))
  | ((with_reducible apply s_slL); (walk_at "sq"); (intro _ _ _ _ _))
  | with_reducible refine s_for ?_
  | with_reducible refine s_rng1 ?_
  | ((with_reducible refine s_rng1i ?_ ?_); (constructor <;> omega))
  | with_reducible refine s_rng2 ?_
  | ((with_reducible refine s_rng2i ?_ ?_); (refine ⟨?_, ?_, ?_, ?_⟩ <;> omega))
  | with_reducible refine s_iStr ?_
  | with_reducible refine s_iStrS ?_
  | with_reducible refine s_iList ?_
  | ((with_reducible apply s_iListA); (walk_at "sq"))
  | with_reducible refine s_iTup ?_
  | ((with_reducible apply s_iTupA); (walk_at "sqt"))
  | with_reducible refine s_sl ?_
  | with_reducible refine s_noPart ?_
  | with_reducible refine s_part ?_
  | with_reducible refine s_int1 ?_
  | ((with_reducible refine s_slS ?_ ?_); (walk_at "sz"))
  | with_reducible refine s_tup ?_
  | with_reducible refine s_lst ?_
  | with_reducible refine s_par ?_
  | with_reducible refine s_pair ?_
  | with_reducible refine s_M1 ?_
  | with_reducible refine s_isStr ?_
  | with_reducible refine s_revS ?_
  | ((with_reducible refine s_revS1 ?_ ?_); (walk_at "sz"))
  | with_reducible refine s_fldE ?_
  | with_reducible refine s_propE ?_
  | ((with_reducible refine u_draw ?_ ?_ ?_ ?_); omega; omega; (walk_at "pool"); (intro _ _ _ _ _ _))
  | ((with_reducible refine u_pool ?_); (intro _ _ _ _ _))
  | with_reducible refine u_is_integer ?_
  | with_reducible refine s_isiII ?_
  | with_reducible refine s_isiIB ?_
  | with_reducible refine s_isiSS ?_
  | ((with_reducible apply u_fldRing); assumption; (walk_at "ring"))
  | ((with_reducible apply u_textP); (walk_at "ring"))
  | ((with_reducible apply u_strRing); (walk_at "ring"))
  | ((with_reducible apply u_eqRing); (walk_at "ring"); (walk_at "ring"))
  | ((with_reducible apply u_isiRing); assumption; (walk_at "ring"))
  | ((with_reducible refine u_is_word ?_ ?_); omega; (intro _ _))
  | ((with_reducible refine u_turnings ?_ ?_); omega; (intro _ _ _ _ _))
  | with_reducible refine s_makeE ?_
  | with_reducible refine s_methE ?_)
local macro_rules | `(tactic| walk_at "go") => `(tactic| repeat (walk_at "st"))
local macro_rules | `(tactic| walk_at "exs") => `(tactic| first | exact Ex.rfl | assumption | (apply Ex.snoc (by assumption); walk_at "exs") | (apply Ex.snocW (by assumption); walk_at "exs"))
local macro_rules | `(tactic| walk_at "kind") => `(tactic| first | assumption | (apply KindAt.ex0 (by assumption); (walk_at "kind")) | (apply KindAt.exP (by assumption) (by assumption); (walk_at "kind")))
local macro_rules | `(tactic| walk_at "st") => `(tactic| first
  | with_reducible refine s_lenSet ?_
  | with_reducible refine s_drop ?_
  | with_reducible refine s_bm ?_
  | with_reducible refine s_notN ?_
  | with_reducible refine s_isN ?_
  | ((with_reducible apply s_tyL); (walk_at "hp"))
  | with_reducible refine s_enumT ?_
  | ((with_reducible apply s_enumTA); (walk_at "sqt"))
  | with_reducible refine s_lc2 ?_)
local macro_rules | `(tactic| walk_at "lit") => `(tactic| exact lit_MRK)
local macro_rules | `(tactic| walk_at "st") => `(tactic| first
  | with_reducible refine s_dcT ?_
  | with_reducible refine s_dc ?_)
local macro_rules | `(tactic| walk_at "lit") => `(tactic| exact lit_z)
local macro_rules | `(tactic| walk_at "lit") => `(tactic| exact lit_s)
local macro_rules | `(tactic| walk_at "st") => `(tactic| first
  | ((with_reducible refine u_pick ?_ ?_ ?_ ?_); omega; omega; (walk_at "pool"); (intro _ _ _ _ _ _))
  | with_reducible refine s_dget ?_)
/-- _law_loop: 0 _law_model_here 1 _law_names_here 2 _law_size 3 _law_rows 4 _law_state 5 _law_sign 6 _law_later 7 _law_amount_here 8 _law_turns 9 _law_yes_list -/
def t_lawP_loop (K : PySem.W.Frag) : TS :=
  (tSeq (tAsg (tTup (tCons (tDGet (tVar 0) (tC (.str "names"))) (tCons (tCB (rLenV K) (tCons (tDGet (tVar 0) (tC (.str "ends"))) tNil)) tNil))) (gTup K 2 (gCons (gName 1) (gCons (gName 2) gNil))))
  (tSeq (tAsg (tLst tNil) (gName 3))
  (tSeq (tFor (iRng1 (tCons (tVar 2) tNil)) (gName 4) (tFor (iStr (tDGet (tVar 0) (tC (.str "signs")))) (gName 5) (tSeq (tAsg (tDGet (tDGet (tVar 0) (tC (.str "steps"))) (tTup (tCons (tVar 4) (tCons (tVar 5) tNil)))) (gTup K 2 (gCons (gName 6) (gCons (gName 7) gNil))))
  (tDrop (tBM K "list" rAppend (tVar 3) (tCons (tTup (tCons (tOp (rIxL K) (tVar 1) (tVar 4)) (tCons (tVar 5) (tCons (tOp (rIxL K) (tVar 1) (tVar 6)) (tCons (tVar 7) tNil))))) tNil))))))
  (tSeq (tAsg (tLc (iRng1 (tCons (tVar 2) tNil)) (gName 4) tYes (tTup (tCons (tOp (rIxL K) (tVar 1) (tVar 4)) (tCons (tOp (rIxL K) (tVar 1) (tOp (rIxT K) (tOp (rIxL K) (tDGet (tVar 0) (tC (.str "ends"))) (tVar 4)) (tC (.int 0)))) (tCons (tOp (rIxT K) (tOp (rIxL K) (tDGet (tVar 0) (tC (.str "ends"))) (tVar 4)) (tC (.int 1))) tNil)))) [4]) (gName 8))
  (tSeq (tAsg (tCB (rTupOf K) (tCons (tLc (iList K (tDGet (tVar 0) (tC (.str "yes")))) (gName 4) tYes (tOp (rIxL K) (tVar 1) (tVar 4)) [4]) tNil)) (gName 9))
  (tRet (tMakeK (He.ga K "Loop") 4 1 (sp_Loop_init K) (fun vs zs => selG [(0, 0), (0, 1), (0, 2), (0, 3), (0, 4), (2, 0)] vs [(.ref (He.dflAt ("Loop", some "__init__") 0 K))] [] zs) E0 (tCons (tDGet (tVar 0) (tC (.str "signs"))) (tCons (tCB (rTupOf K) (tCons (tVar 1) tNil)) (tCons (tCB (rTupOf K) (tCons (tVar 3) tNil)) (tCons (tCB (rTupOf K) (tCons (tVar 8) tNil)) tNil)))) (tCons (tVar 9) tNil))))))))
section
variable {K : PySem.W.Frag} {vs : List V} {H H' : Hp} {Q : VK} {E : XK} {a q : Addr} {D : MD}
theorem EndsOk.ex0 {ee : Addr} (e : Ex [] H H') (h : EndsOk K H ee D) : EndsOk K H' ee D := by
  obtain ⟨xs, h1, h2⟩ := h
  exact ⟨xs, e.get0 h1, h2.ex0 e⟩
theorem MDAt.ex0 (e : Ex [] H H') (h : MDAt K H q D) : MDAt K H' q D := by
  obtain ⟨kvs, ss, ee, yy, nn, kt, h1, h2, h3, h4, h5, h6, h7, h8, h9, h10, h11, h12⟩ := h
  exact ⟨kvs, ss, ee, yy, nn, kt, e.get0 h1, h2, h3, h4, h5, h6, h7, e.get0 h8, h9.ex0 e, h10.ex0 e, e.get0 h11, e.get0 h12⟩
theorem s_dk {C : V → Prop} {kvs : List (Key × V)} {l : List Nat} {v : V} (h : H q = some (.dK kvs)) (hv : valV kvs (kS l) = some v) (k : C v) : ∃ b w, V.ref q = .ref b ∧ DGet H b (vS l) (some w) ∧ C w := ⟨q, v, rfl, by rw [← hv]; exact DGet.k h (k := kS l), k⟩
theorem s_dsteps {C : V → Prop} {ss p0 : Addr} {kt : List (List Key × V)} {i c : Nat} (h1 : H ss = some (.dT kt)) (h2 : StepsOk K H kt D) (hi : i < D.n) (hc : c ∈ D.s) (hq : H p0 = some (.tup [.int (i : Nat), vS [c]])) (k : ∀ p, SqT K H p [.int ((D.T i c).1 : Nat), .int (D.T i c).2] → C (.ref p)) : ∃ b v, V.ref ss = .ref b ∧ DGet H b (.ref p0) (some v) ∧ C v := by
  obtain ⟨p, z1, z2⟩ := h2 i hi c hc
  exact ⟨ss, .ref p, rfl, by rw [← z1]; exact DGet.t h1 (k := [kI i, kS [c]]) hq, k p z2⟩
theorem pure_lawP_loop (h : sp_lawP_loop K vs H Q E) : t_lawP_loop K (E1 Q) (start ["_law_model_here", "_law_names_here", "_law_size", "_law_rows", "_law_state", "_law_sign", "_law_later", "_law_amount_here", "_law_turns", "_law_yes_list"] vs) H := by
  obtain ⟨q, rfl, D, hq, g, k⟩ := h
  show t_lawP_loop K (E1 Q) [some (.ref q), none, none, none, none, none, none, none, none, none] H
  unfold t_lawP_loop
  obtain ⟨kvs, ss, ee, yy, nn, kt, h1, h2, h3, h4, h5, h6, h7, h8, h9, ⟨xs, h10, t10⟩, h11, h12⟩ := hq
  have s4 := g.s.2.1
  have n6 := g.n6
  have xl : xs.length = D.n := by rw [t10.1]; simp
  have nmI : ∀ {i : Nat}, i < D.n → (D.nm.map vS)[i]? = some (vS (D.nm.getD i [])) := fun hi => by rw [List.getElem?_map, nm_get g hi]; rfl
  walk_at "go"
  refine s_dk h1 h7 ?_
  walk_at "go"
  refine s_dk h1 h5 ?_
  walk_at "go"
  rename_i tp H1 ntp e1 z1 rl H2 nrl e2 z2
  have e02 := e1.trans e2
  rw [xl, Int.toNat_natCast]
  have rowsL : ∀ i, i ≤ D.n → ((List.range i).flatMap fun i => D.s.map fun c => rwV ⟨D.nm.getD i [], c, D.nm.getD (D.T i c).1 [], (D.T i c).2⟩).length ≤ i * 4 := by
    intro i
    induction i with
    | zero => intro _; simp
    | succ i ih =>
      intro hi
      have := ih (by omega)
      rw [List.range_succ, List.flatMap_append, List.length_append]
      simp only [List.flatMap_cons, List.flatMap_nil, List.append_nil, List.length_map]
      omega
  have nrl0 : H rl = none := e1.free nrl
  refine for_run walk_range (fun i σ G => ∃ xs x4 x5 x6 x7, σ = [some (.ref q), some (.ref nn), some (.int (D.n : Nat)), some (.ref rl), x4, x5, x6, x7, none, none] ∧ Ex [] H G ∧ G rl = some (.lst xs) ∧ Tups K G xs ((List.range i).flatMap fun i => D.s.map fun c => rwV ⟨D.nm.getD i [], c, D.nm.getD (D.T i c).1 [], (D.T i c).2⟩)) ⟨[], none, none, none, none, rfl, e02, z2, Tups.nil⟩ (fun _ _ _ _ _ => trivial) ?_ ?_
  · rintro i v σ G G2 hi ⟨xs, x4, x5, x6, x7, rfl, e3, z3, t3⟩ ⟨rfl, rfl⟩
    have h1' := e3.get0 h1
    walk_at "go"
    refine s_dk h1' h3 ?_
    walk_at "go"
    have wk := walk_str (z := S D.s)
    have hsz : (S D.s).cps.size = D.s.length := by simp [S]
    rw [hsz] at wk
    rw [List.range_succ, List.flatMap_append]
    refine for_run wk (fun j σ J => ∃ xs x5 x6 x7, σ = [some (.ref q), some (.ref nn), some (.int (D.n : Nat)), some (.ref rl), some (.int ((0 : Int) + (i : Nat))), x5, x6, x7, none, none] ∧ Ex [] H J ∧ J rl = some (.lst xs) ∧ Tups K J xs (((List.range i).flatMap fun i => D.s.map fun c => rwV ⟨D.nm.getD i [], c, D.nm.getD (D.T i c).1 [], (D.T i c).2⟩) ++ (D.s.take j).map fun c => rwV ⟨D.nm.getD i [], c, D.nm.getD (D.T i c).1 [], (D.T i c).2⟩)) ⟨xs, _, _, _, rfl, e3, z3, by simpa using t3⟩ (fun _ _ _ _ _ => trivial) ?_ ?_
    · rintro j y σ J J2 hj ⟨xs, x5, x6, x7, rfl, e4, z4, t4⟩ ⟨rfl, c, hc, ev⟩
      have ev : y = vS [c] := ev
      subst ev
      have hc : D.s[j]? = some c := by simpa [S] using hc
      have hcm := List.mem_of_getElem? hc
      have ht1 : D.s.take (j + 1) = D.s.take j ++ [c] := by rw [List.take_add_one, hc]; rfl
      rw [ht1, List.map_append]
      have h14 := e4.get0 h1
      walk_at "go"
      refine s_dk h14 h4 ?_
      walk_at "go"
      rename_i k0 J3 nk0 e5 z5
      have e05 := e4.trans e5
      rw [show ((0 : Int) + (i : Nat)) = ((i : Nat) : Int) by omega] at z5
      refine s_dsteps (e05.get0 h8) (h9.ex0 e05) hi hcm z5 fun p hp => ?_
      have z45 := e5.get0 z4
      walk_at "go"
      refine s_ixL (v := vS (D.nm.getD i [])) (SqL.of (e05.get0 h12)) (atI_of (by omega) (by rw [show ((0 : Int) + (i : Nat)).toNat = i by omega]; exact nmI hi)) ?_
      walk_at "go"
      refine s_ixL (v := vS (D.nm.getD (D.T i c).1 [])) (SqL.of (e05.get0 h12)) (atI_of (by omega) (by rw [Int.toNat_natCast]; exact nmI (g.T i hi c hcm).1)) ?_
      walk_at "go"
      rename_i p4 J4 np4 e6 z6
      have lx := rowsL i (by omega)
      refine s_append (e6.get0 z45) (Nat.lt_of_le_of_lt (show _ ≤ 100 by rw [t4.1, List.length_append, List.length_map, List.length_take]; omega) (by decide)) fun J5 e7 z7 => ?_
      refine ⟨xs ++ [.ref p4], _, _, _, rfl, Ex.drop nrl0 (e05.trans e6) e7, z7, ?_⟩
      have t6 := t4.ex0 (e5.trans e6)
      rw [← List.append_assoc]
      refine Tups.snoc ⟨t6.1, fun i x l h1 h2 => ?_⟩ (sqT_lst (e6.get0 z45) e7 (SqT.of z6))
      obtain ⟨p', h3, h4⟩ := t6.2 i x l h1 h2
      exact ⟨p', h3, sqT_lst (e6.get0 z45) e7 h4⟩
    · rintro σ J ⟨xs, x5, x6, x7, rfl, e4, z4, t4⟩
      rw [List.take_length] at t4
      exact ⟨xs, _, _, _, _, rfl, e4, z4, by simpa using t4⟩
  · rintro σ G ⟨rws, x4, x5, x6, x7, rfl, e3, z3, t3⟩
    have h13 := e3.get0 h1
    refine s_seq (s_asg (s_lc (s_rng1 (s_cons (s_var rfl (s_nil ?_))))))
    refine s_rng1i (by constructor <;> omega) ?_
    rw [Int.toNat_natCast]
    refine lc_tupsR (K := K) (by omega) (fun i => tnV ⟨D.nm.getD i [], D.nm.getD (D.En i).1 [], (D.En i).2⟩) (fun i J C hi eJ kc => ?_) fun tl J tls ntl eJ zJ tJ => ?_
    · have e0J := e3.trans eJ
      have h1J := e0J.get0 h1
      have hil : i < xs.length := by omega
      obtain ⟨pi, hpi, spi⟩ := (t10.ex0 e0J).2 i _ [V.int ((D.En i).1 : Nat), .int (D.En i).2] (List.getElem?_eq_getElem hil) (by rw [List.getElem?_map, List.getElem?_range hi]; rfl)
      have hix : atI xs ((0 : Int) + (i : Nat)) = some (.ref pi) := atI_of (by omega) (by rw [show ((0 : Int) + (i : Nat)).toNat = i by omega, List.getElem?_eq_getElem hil, hpi])
      walk_at "go"
      refine s_ixL (v := vS (D.nm.getD i [])) (SqL.of (e0J.get0 h12)) (atI_of (by omega) (by rw [show ((0 : Int) + (i : Nat)).toNat = i by omega]; exact nmI hi)) ?_
      walk_at "go"
      refine s_dk h1J h5 ?_
      walk_at "go"
      refine s_ixL (SqL.of (e0J.get0 h10)) hix ?_
      walk_at "go"
      refine s_ixL (v := vS (D.nm.getD (D.En i).1 [])) (SqL.of (e0J.get0 h12)) (atI_of (by omega) (by rw [Int.toNat_natCast]; exact nmI (g.En i hi).1)) ?_
      walk_at "go"
      refine s_dk h1J h5 ?_
      walk_at "go"
      refine s_ixL (SqL.of (e0J.get0 h10)) hix ?_
      walk_at "go"
      rename_i p4 J4 np4 e6 z6
      exact kc _ _ e6 (SqT.of z6)
    have e0J := e3.trans eJ
    have h1J := e0J.get0 h1
    walk_at "go"
    refine s_dk h1J h6 ?_
    walk_at "go"
    refine lc_fmG (l := D.ys) (fun y => V.int (y : Nat)) (SqL.of (e0J.get0 h11)) (by have := nodup_le D.ys (List.range D.n) g.ys.1 fun y hy => List.mem_range.mpr (g.ys.2 y hy); rw [List.length_range] at this; omega) (fun _ => true) (fun y => vS (D.nm.getD y [])) (fun y J2 C1 C0 hy e4 k1 k0 => ?_) fun yl J2 nyl e4 z4 => ?_
    · refine s_yes ?_
      walk_at "go"
      refine s_ixL (v := vS (D.nm.getD y [])) (SqL.of ((e0J.trans e4).get0 h12)) (atI_of (by omega) (by rw [Int.toNat_natCast]; exact nmI (g.ys.2 y hy))) ?_
      exact k1 _ Ex.rfl rfl
    rw [show D.ys.filter (fun _ => true) = D.ys from List.filter_eq_self.mpr fun _ _ => rfl] at z4
    have z4 : J2 yl = some (.lst ((yesD D).map vS)) := by rw [z4]; unfold yesD; rw [List.map_map]; rfl
    walk_at "go"
    refine s_tupOf (SqL.of z4) fun yt J3 nyt e5 z5 => ?_
    have e05 := e0J.trans (e4.trans e5)
    have h15 := e05.get0 h1
    walk_at "go"
    refine s_makeK ?_
    walk_at "go"
    refine s_dk h15 h3 ?_
    walk_at "go"
    refine s_tupOf (SqL.of (e05.get0 h12)) fun nt J4 nnt e6 z6 => ?_
    walk_at "go"
    refine s_tupOf (SqL.of ((eJ.trans (e4.trans (e5.trans e6))).get0 z3)) fun rt J5 nrt e7 z7 => ?_
    walk_at "go"
    refine s_tupOf (SqL.of ((e4.trans (e5.trans (e6.trans e7))).get0 zJ)) fun tt J6 ntt e8 z8 => ?_
    walk_at "go"
    have e68 := e6.trans (e7.trans e8)
    have er : (rowsD D).map rwV = (List.range D.n).flatMap fun i => D.s.map fun c => rwV ⟨D.nm.getD i [], c, D.nm.getD (D.T i c).1 [], (D.T i c).2⟩ := by
      unfold rowsD
      rw [List.map_flatMap]
      congr 1
      funext i
      rw [List.map_map]
      rfl
    have et : (turnsD D).map tnV = (List.range D.n).map fun i => tnV ⟨D.nm.getD i [], D.nm.getD (D.En i).1 [], (D.En i).2⟩ := by
      unfold turnsD
      rw [List.map_map]
      rfl
    refine mk_loop (M' := loopD D) (rs := rowsD D) (ts := turnsD D) (ys := yesD D) g.s (SqT.of ((e7.trans e8).get0 z6)) g.nm (by rw [er]; exact TupsAt.mk (SqT.of (e8.get0 z7)) (t3.ex0 (eJ.trans (e4.trans (e5.trans e68))))) (rowsD_good g) (by rw [et]; exact TupsAt.mk (SqT.of z8) (tJ.ex0 (e4.trans (e5.trans e68)))) (turnsD_good g) (SqT.of (e68.get0 z5)) (yesD_good g) rfl rfl (fun _ _ _ _ => rfl) (fun _ _ => rfl) rfl fun x J7 e9 hx => ?_
    exact k x J7 (e05.trans (e68.trans e9)) hx
end
end WB
namespace WB
open PySem PySem.Spec PyProof.Rows L2
theorem readW_get' {l : List Nat} {i : Int} {n k : Nat} (hk : k < n) : (readW l i n)[k]? = some (l.getD (((i % l.length).toNat + k) % l.length) 0) := by
  unfold readW
  rw [List.getElem?_map, List.getElem?_range hk]
  rfl
/-- reading round a repeated ring -/
theorem readW_rep {l : List Nat} {t : Nat} (hl : 1 ≤ l.length) (ht : 1 ≤ t) (i : Int) : readW (rep t l) i (t * l.length) = rep t (readW l i l.length) := by
  have hL : (rep t l).length = t * l.length := rep_length t l
  have hW : (readW l i l.length).length = l.length := readW_len _ _ _
  apply List.ext_getElem?
  intro k
  by_cases hk : k < t * l.length
  rotate_left
  · rw [List.getElem?_eq_none (by rw [readW_len]; omega), List.getElem?_eq_none (by rw [rep_length, hW]; omega)]
  rw [readW_get' hk, rep_get (by omega) t k (by rw [hW]; exact hk), hW, readW_get' (Nat.mod_lt _ (by omega))]
  have hpos : 0 < t * l.length := Nat.mul_pos ht hl
  have hm := Nat.mod_lt ((i % ((rep t l).length : Int)).toNat + k) (show 0 < (rep t l).length by omega)
  have hg : ∀ j, j < t * l.length → (rep t l).getD j 0 = l.getD (j % l.length) 0 := fun j hj => by
    rw [List.getD_eq_getElem?_getD, rep_get hl t j hj, List.getD_eq_getElem?_getD]
  rw [hg _ (by rw [hL] at hm ⊢; exact hm), hL]
  have h1 : (((i % ((t * l.length : Nat) : Int)).toNat + k) % (t * l.length)) % l.length = ((i % ((t * l.length : Nat) : Int)).toNat + k) % l.length := Nat.mod_mod_of_dvd _ (Nat.dvd_mul_left _ _)
  have h2 : (i % ((t * l.length : Nat) : Int)).toNat % l.length = (i % (l.length : Int)).toNat := by
    have p1 := Int.emod_nonneg i (show ((t * l.length : Nat) : Int) ≠ 0 by omega)
    have p2 := Int.emod_nonneg i (show ((l.length : Nat) : Int) ≠ 0 by omega)
    have p3 : (i % ((t * l.length : Nat) : Int)) % (l.length : Int) = i % (l.length : Int) := Int.emod_emod_of_dvd i (by
      push_cast
      exact Int.dvd_mul_left _ _)
    have p4 : (((i % ((t * l.length : Nat) : Int)).toNat % l.length : Nat) : Int) = i % (l.length : Int) := by
      push_cast
      rw [Int.toNat_of_nonneg (by push_cast at p1; exact p1)]
      push_cast at p3
      exact p3
    omega
  rw [h1, Nat.add_mod, h2]
end WB
namespace WB
open PySem PySem.Spec PyProof.Rows L2
theorem lit83_101_110_100_115 : ("ends" : Str) = S [101, 110, 100, 115] := by decide +kernel
theorem lit83_115_105_103_110_115 : ("signs" : Str) = S [115, 105, 103, 110, 115] := by decide +kernel
local macro_rules | `(tactic| walk_at "lit") => `(tactic| first | exact lit83_101_110_100_115 | exact lit83_115_105_103_110_115)
local macro_rules | `(tactic| walk_at "lit") => `(tactic| first | exact lit_abc | exact lit_empty)
local macro_rules | `(tactic| walk_at "nm") => `(tactic| focus first | exact List.not_mem_nil | (simp only [List.mem_singleton]; first | assumption | (exact Ne.symm (by assumption)) | (intro hz; subst hz; simp_all; done)))
local macro_rules | `(tactic| walk_at "hp") => `(tactic| first | assumption | (apply Ex.get0 (by assumption); walk_at "hp") | (apply Ex.get (by assumption); (walk_at "nm"); (walk_at "hp")))
local macro_rules | `(tactic| walk_at "sq") => `(tactic| first | assumption | (apply SqL.of; walk_at "hp") | (apply Ex.sqL (by assumption); (walk_at "nm"); (walk_at "sq")))
local macro_rules | `(tactic| walk_at "sqt") => `(tactic| first | assumption | (apply SqT.of; walk_at "hp") | (apply Ex.sqT (by assumption); (walk_at "nm"); (walk_at "sqt")))
local macro_rules | `(tactic| walk_at "sz") => `(tactic| focus ((with_reducible refine Nat.le_trans (m := 100000) ?_ (by decide)); first | omega | (simp; done) | (simp; omega)))
local macro_rules | `(tactic| walk_at "mul") => `(tactic| first | exact Or.inr ⟨by omega, by omega⟩ | exact Or.inl ⟨by omega, by omega⟩)
local macro_rules | `(tactic| walk_at "pool") => `(tactic| first | assumption | (apply PoolAt.ex (by assumption); (walk_at "nm"); (walk_at "pool")))
local macro_rules | `(tactic| walk_at "ring") => `(tactic| first | assumption | (apply RingAt.ex (by assumption); (walk_at "nm"); (walk_at "ring")))
local macro_rules | `(tactic| walk_at "st") => `(tactic| first
  | with_reducible refine s_seq ?_
  | with_reducible refine s_asg ?_
  | with_reducible refine s_gName ?_
  | with_reducible refine s_ret ?_
  | with_reducible refine s_ifS ?_
  | with_reducible refine s_next ?_
  | with_reducible refine s_op ?_
  | ((with_reducible apply s_var); exact rfl)
  | ((with_reducible apply s_cS); (walk_at "lit"))
  | with_reducible refine s_c ?_
  | with_reducible refine s_cb ?_
  | with_reducible refine s_cons ?_
  | with_reducible refine s_nil ?_
  | with_reducible refine s_un ?_
  | with_reducible refine s_call ?_
  | with_reducible refine s_test ?_
  | with_reducible refine s_tB ?_
  | with_reducible refine s_blQ ?_
  | with_reducible refine s_not ?_
  | with_reducible refine s_and ?_
  | with_reducible refine s_or ?_
  | with_reducible refine s_andV ?_
  | with_reducible refine s_orV ?_
  | with_reducible refine s_notV ?_
  | with_reducible refine s_ifE ?_
  | with_reducible refine s_chain ?_
  | ((with_reducible refine s_T ?_ ?_); (with_reducible exact rfl))
  | with_reducible refine s_nT ?_
  | with_reducible refine s_nF ?_
  | ((with_reducible refine s_F ?_ ?_); (with_reducible exact rfl))
  | ((with_reducible refine s_T ?_ ?_); assumption)
  | ((with_reducible refine s_F ?_ ?_); assumption)
  | ((with_reducible refine s_nB ?_ ?_); assumption)
  | ((with_reducible refine s_nA ?_ ?_); assumption)
  | ((with_reducible refine s_Td ?_ ?_); omega)
  | ((with_reducible refine s_Fd ?_ ?_); omega)
  | ((with_reducible refine s_nTd ?_ ?_); omega)
  | ((with_reducible refine s_nFd ?_ ?_); omega)
  | with_reducible refine s_sfld ?_
  | with_reducible refine s_addI ?_
  | with_reducible refine s_subI ?_
  | ((with_reducible refine s_mulI ?_ ?_); (walk_at "mul"))
  | ((with_reducible refine s_divI ?_ ?_); exact ⟨by omega, by omega⟩)
  | ((with_reducible refine s_modI ?_ ?_); omega)
  | ((with_reducible refine s_powI ?_ ?_); exact ⟨by decide, by decide, by decide⟩)
  | with_reducible refine s_ltI ?_
  | with_reducible refine s_leI ?_
  | with_reducible refine s_gtI ?_
  | with_reducible refine s_geI ?_
  | with_reducible refine s_negI ?_
  | with_reducible refine s_absI ?_
  | with_reducible refine s_intI ?_
  | with_reducible refine s_min2 ?_
  | with_reducible refine s_max2 ?_
  | with_reducible refine s_eqI ?_
  | with_reducible refine s_neI ?_
  | with_reducible refine s_eqS ?_
  | with_reducible refine s_neS ?_
  | with_reducible refine s_inSg ?_
  | with_reducible refine s_notInSg ?_
  | ((with_reducible refine s_addS ?_ ?_); (walk_at "sz"))
  | ((with_reducible refine s_lenS ?_ ?_); (walk_at "sz"))
  | ((with_reducible apply s_lenL); (walk_at "sq"))
  | ((with_reducible apply s_lenT); (walk_at "sqt"))
  | ((with_reducible apply s_ixL); (walk_at "sq"); exact rfl)
  | ((with_reducible apply s_ixT); (walk_at "sqt"); exact rfl)
  | with_reducible refine s_gSub ?_
  | ((with_reducible apply s_setL); (walk_at "hp"); (exact rfl); (intro _ _ _))
  | ((with_reducible refine s_alloc ?_ ?_); (walk_at "sz"); (intro _ _ _ _ _))
  | ((with_reducible refine s_divmod ?_ ?_); (exact ⟨by omega, PyProof.noPylong_small (by omega)⟩); (intro _ _ _ _ _))
  | ((with_reducible apply s_gTup); (walk_at "sqt"); (exact rfl))
  | ((with_reducible apply s_gLst); (walk_at "sq"); (exact rfl))
  | with_reducible refine s_gCons ?_
  | with_reducible refine s_gNil ?_
  | with_reducible refine s_lc ?_
  | ((with_reducible apply s_cat); (walk_at "hp"); (walk_at "hp"); (walk_at "sz"); (intro _ _ _ _ _))
  | ((with_reducible apply s_slL); (walk_at "sq"); (intro _ _ _ _ _))
  | with_reducible refine s_for ?_
  | with_reducible refine s_rng1 ?_
  | ((with_reducible refine s_rng1i ?_ ?_); (constructor <;> omega))
  | with_reducible refine s_rng2 ?_
  | ((with_reducible refine s_rng2i ?_ ?_); (refine ⟨?_, ?_, ?_, ?_⟩ <;> omega))
  | with_reducible refine s_iStr ?_
  | with_reducible refine s_iStrS ?_
  | with_reducible refine s_iList ?_
  | ((with_reducible apply s_iListA); (walk_at "sq"))
  | with_reducible refine s_iTup ?_
  | ((with_reducible apply s_iTupA); (walk_at "sqt"))
  | with_reducible refine s_sl ?_
  | with_reducible refine s_noPart ?_
  | with_reducible refine s_part ?_
  | with_reducible refine s_int1 ?_
  | ((with_reducible refine s_slS ?_ ?_); (walk_at "sz"))
  | with_reducible refine s_tup ?_
  | with_reducible refine s_lst ?_
  | with_reducible refine s_par ?_
  | with_reducible refine s_pair ?_
  | with_reducible refine s_M1 ?_
  | with_reducible refine s_isStr ?_
  | with_reducible refine s_revS ?_
  | ((with_reducible refine s_revS1 ?_ ?_); (walk_at "sz"))
  | with_reducible refine s_fldE ?_
  | with_reducible refine s_propE ?_
  | ((with_reducible refine u_draw ?_ ?_ ?_ ?_); omega; omega; (walk_at "pool"); (intro _ _ _ _ _ _))
  | ((with_reducible refine u_pool ?_); (intro _ _ _ _ _))
  | with_reducible refine u_is_integer ?_
  | with_reducible refine s_isiII ?_
  | with_reducible refine s_isiIB ?_
  | with_reducible refine s_isiSS ?_
  | ((with_reducible apply u_fldRing); assumption; (walk_at "ring"))
  | ((with_reducible apply u_textP); (walk_at "ring"))
  | ((with_reducible apply u_strRing); (walk_at "ring"))
  | ((with_reducible apply u_eqRing); (walk_at "ring"); (walk_at "ring"))
  | ((with_reducible apply u_isiRing); assumption; (walk_at "ring"))
  | ((with_reducible refine u_is_word ?_ ?_); omega; (intro _ _))
  | ((with_reducible refine u_turnings ?_ ?_); omega; (intro _ _ _ _ _))
  | with_reducible refine s_makeE ?_
  | with_reducible refine s_methE ?_)
local macro_rules | `(tactic| walk_at "go") => `(tactic| repeat (walk_at "st"))
local macro_rules | `(tactic| walk_at "exs") => `(tactic| first | exact Ex.rfl | assumption | (apply Ex.snoc (by assumption); walk_at "exs") | (apply Ex.snocW (by assumption); walk_at "exs"))
local macro_rules | `(tactic| walk_at "kind") => `(tactic| first | assumption | (apply KindAt.ex0 (by assumption); (walk_at "kind")) | (apply KindAt.exP (by assumption) (by assumption); (walk_at "kind")))
local macro_rules | `(tactic| walk_at "st") => `(tactic| first
  | with_reducible refine s_lenSet ?_
  | with_reducible refine s_drop ?_
  | with_reducible refine s_bm ?_
  | with_reducible refine s_notN ?_
  | with_reducible refine s_isN ?_
  | ((with_reducible apply s_tyL); (walk_at "hp"))
  | with_reducible refine s_enumT ?_
  | ((with_reducible apply s_enumTA); (walk_at "sqt"))
  | with_reducible refine s_lc2 ?_)
local macro_rules | `(tactic| walk_at "lit") => `(tactic| exact lit_MRK)
local macro_rules | `(tactic| walk_at "st") => `(tactic| first
  | with_reducible refine s_dcT ?_
  | with_reducible refine s_dc ?_)
local macro_rules | `(tactic| walk_at "lit") => `(tactic| exact lit_z)
local macro_rules | `(tactic| walk_at "lit") => `(tactic| exact lit_s)
local macro_rules | `(tactic| walk_at "st") => `(tactic| first
  | ((with_reducible refine u_pick ?_ ?_ ?_ ?_); omega; omega; (walk_at "pool"); (intro _ _ _ _ _ _))
  | with_reducible refine s_dget ?_)
/-- _law_right: 0 _law_purse_here 1 _law_size 2 _law_model_here 3 _law_state 4 _law_loop_here 5 _law_signs_here 6 _law_word 7 _law_k 8 _law_ring 9 _law_times 10 _law_place 11 _law_near 12 _law_far 13 _law_top 14 _law_low 15 _law_high 16 _law_part -/
def t_law_right (K : PySem.W.Frag) : TS :=
  (tSeq (tAsg (tOp rAddI (tC (.int 1)) (tCall (sp_lawP_pick K) [] E0 (tCons (tVar 0) (tCons (tC (.int 3)) tNil)))) (gName 1))
  (tSeq (tAsg (tCall (sp_lawP_model K) [] E0 (tCons (tVar 0) (tCons (tVar 1) (tCons (tCall (sp_lawP_signs K) [] E0 (tCons (tVar 0) (tCons (tOp rAddI (tC (.int 1)) (tCall (sp_lawP_pick K) [] E0 (tCons (tVar 0) (tCons (tC (.int 3)) tNil)))) tNil))) (tCons (tC (.bl true)) tNil))))) (gName 2))
  (tSeq (sDPut (tVar 2) (tC (.str "ends")) (tLc (iRng1 (tCons (tVar 1) tNil)) (gName 3) tYes (tTup (tCons (tVar 3) (tCons (tC (.int 0)) tNil))) [3]))
  (tSeq (tAsg (tTup (tCons (tCall (sp_lawP_loop K) [] E0 (tCons (tVar 2) tNil)) (tCons (tDGet (tVar 2) (tC (.str "signs"))) tNil))) (gTup K 2 (gCons (gName 4) (gCons (gName 5) gNil))))
  (tSeq (tAsg (tM1 (rJoin K) (tC (.str "")) (tLc (iRng1 (tCons (tOp rAddI (tC (.int 1)) (tCall (sp_lawP_pick K) [] E0 (tCons (tVar 0) (tCons (tC (.int 7)) tNil)))) tNil)) (gName 7) tYes (tOp rIxS (tVar 5) (tCall (sp_lawP_pick K) [] E0 (tCons (tVar 0) (tCons (tCB (rLenV K) (tCons (tVar 5) tNil)) tNil)))) [7])) (gName 6))
  (tSeq (tPar3 8 9 10 (tCons (tMake (He.ga K "Ring") (sp_Ring_init K) [] E0 (tCons (tVar 6) tNil)) (tCons (tOp rAddI (tC (.int 1)) (tCall (sp_lawP_pick K) [] E0 (tCons (tVar 0) (tCons (tC (.int 6)) tNil)))) (tCons (tOp rSubI (tCall (sp_lawP_pick K) [] E0 (tCons (tVar 0) (tCons (tC (.int 9)) tNil))) (tC (.int 1))) tNil))))
  (tSeq (tPar 11 12 (tCons (tMeth (He.ga K "Ring") "turned" (sp_Ring_turned K) [] E0 (tVar 8) (tCons (tVar 10) tNil)) (tCons (tMeth (He.ga K "Ring") "turned" (sp_Ring_turned K) [] E0 (tOp (rBinI (He.ga K "Ring") (sp_Ring_mul K) E0) (tVar 8) (tVar 9)) (tCons (tVar 10) tNil)) tNil)))
  (tSeq (tIfS (tOr (tTest (tOp rNe (tVar 12) (tOp rMulS (tVar 11) (tVar 9)))) (tTest (tOp rNe (tProp (He.ga K "Ring") (sp_Ring_period K) [] E0 (tOp (rBinI (He.ga K "Ring") (sp_Ring_mul K) E0) (tVar 8) (tVar 9))) (tProp (He.ga K "Ring") (sp_Ring_period K) [] E0 (tVar 8))))) (tRet (tC (.bl false))) tNext)
  (tSeq (tIfS (tOr (tTest (tOp rNe (tMeth (He.ga K "Loop") "total" (sp_Loop_total K) [] E0 (tVar 4) (tCons (tVar 11) (tCons (tVar 9) tNil))) (tOp (rIxT K) (tOp (rIxT K) (tInst (He.ga K "Loop") (fun vs H Q E => sp_Loop_call K (vs ++ []) H Q E) E0 (tVar 4) (tCons (tVar 12) (tCons (tC (.int 1)) tNil))) (tC (.int 0))) (tC (.int 0))))) (tTest (tOp rNe (tMeth (He.ga K "Loop") "state" (sp_Loop_state K) [] E0 (tVar 4) (tCons (tVar 11) (tCons (tVar 9) tNil))) (tMeth (He.ga K "Loop") "state" (sp_Loop_state K) [] E0 (tVar 4) (tCons (tVar 12) (tCons (tC (.int 1)) tNil)))))) (tRet (tC (.bl false))) tNext)
  (tSeq (tAsg (tMeth (He.ga K "Loop") "pace" (sp_Loop_pace K) [] E0 (tVar 4) (tCons (tVar 11) tNil)) (gTup K 2 (gCons (gName 13) (gCons (gName 14) gNil))))
  (tSeq (tAsg (tMeth (He.ga K "Loop") "pace" (sp_Loop_pace K) [] E0 (tVar 4) (tCons (tVar 12) tNil)) (gTup K 2 (gCons (gName 15) (gCons (gName 16) gNil))))
  (tRet (tOp rEq (tOp (rI CMulW fun i j => .int (i * j)) (tOp (rI CMulW fun i j => .int (i * j)) (tVar 13) (tVar 9)) (tVar 16)) (tOp (rI CMulW fun i j => .int (i * j)) (tVar 15) (tVar 14)))))))))))))))
/-- law: 0 _law_script 1 _law_spot -/
def t_law (K : PySem.W.Frag) : TS :=
  (tRet (tCB (rAll K) (tCons (tLc (iRng1 (tCons (tCB rMax2 (tCons (tC (.int 2)) (tCons (tCB rMin2 (tCons (tCB (rLenV K) (tCons (tVar 0) tNil)) (tCons (tC (.int 4)) tNil))) tNil))) tNil)) (gName 1) tYes (tCall (sp_law_right K) [] E0 (tCons (tCall (sp_lawP_purse K) [] E0 (tCons (tVar 0) (tCons (tVar 1) tNil))) tNil)) [1]) tNil)))
section
variable {K : PySem.W.Frag} {vs : List V} {H : Hp} {Q : VK} {E : XK}
theorem u_right {a : Addr} (hp : PoolAt H a) (k : ∀ H', Ex [a] H H' → Q (.bl true) H') : sp_law_right K ([.ref a] ++ []) H Q E := ⟨a, rfl, hp, k⟩
theorem pure_law (h : sp_law K vs H Q E) : t_law K (E1 Q) (start ["_law_script", "_law_spot"] vs) H := by
  obtain ⟨a, ns, rfl, hs, hl, k⟩ := h
  show t_law K (E1 Q) [some (.ref a), none] H
  unfold t_law
  walk_at "go"
  rw [List.length_map]
  generalize hn : (if (if (4 : Int) < (ns.length : Int) then (4 : Int) else (ns.length : Int)) > 2 then (if (4 : Int) < (ns.length : Int) then (4 : Int) else (ns.length : Int)) else 2) = n
  have hn2 : 0 ≤ n ∧ n ≤ 63 := by subst hn; split <;> (try split) <;> omega
  clear hn
  refine lc_mapR (by omega) (fun _ => .bl true) (fun i H1 C hi e kk => ?_) (fun D H' hD e hd => ?_)
  · walk_at "go"
    refine u_purse (e.sqL (by simp) hs) hl (by omega) (by omega) fun p H3 hp e3 p3 => ?_
    walk_at "go"
    refine u_right p3 fun H4 e4 => ?_
    exact kk _ (Ex.drop hp e3 e4)
  · walk_at "go"
    refine s_all (bs := (List.range n.toNat).map fun _ => true) ?_ ?_
    · rw [List.map_map]; exact SqL.of hd
    · have : ((List.range n.toNat).map fun _ => true).all id = true := by simp
      rw [this]
      exact k _
theorem pure_law_right (F : LoopK K) (h : sp_law_right K vs H Q E) : t_law_right K (E1 Q) (start ["_law_purse_here", "_law_size", "_law_model_here", "_law_state", "_law_loop_here", "_law_signs_here", "_law_word", "_law_k", "_law_ring", "_law_times", "_law_place", "_law_near", "_law_far", "_law_top", "_law_low", "_law_high", "_law_part"] vs) H := by
  obtain ⟨a, rfl, hp, k⟩ := h
  show t_law_right K (E1 Q) [some (.ref a), none, none, none, none, none, none, none, none, none, none, none, none, none, none, none, none] H
  unfold t_law_right
  walk_at "go"
  rename_i r1 H1 r10 r11 e1 p1 r2 H2 r20 r21 e2 p2
  refine u_signsP (by omega) (by omega) p2 fun s H3 hs hsrt hsl e3 p3 => ?_
  walk_at "go"
  refine u_modelP hs hsrt (by omega) (by omega) p3 fun q D0 H4 g0 hDn hDs nq e4 p4 hq => ?_
  have e04 : Ex [a] H H4 := e1.trans (e2.trans (e3.trans e4))
  have hq0 : H q = none := Ex.freeP p3 (e1.trans (e2.trans e3)) nq
  have hqa : q ≠ a := fun z => hp.there (z ▸ hq0)
  clear e1 e2 e3 e4 p1 p2 p3 nq
  refine s_gName ?_
  refine s_seq ?_
  refine s_dput ?_
  refine s_lc (s_rng1 (s_cons (s_var rfl (s_nil ?_))))
  refine s_rng1i (by constructor <;> omega) ?_
  have hn : (1 + r1).toNat = D0.n := by omega
  rw [hn]
  refine lc_tupsR (K := K) (by have := g0.n6; omega) (fun i => [V.int (i : Nat), .int 0]) (fun i J C hi eJ kc => ?_) fun ee H5 xs nee e5 z5 t5 => ?_
  · walk_at "go"
    rename_i p J2 np e6 z6
    rw [show ((0 : Int) + (i : Nat)) = ((i : Nat) : Int) by omega] at z6
    exact kc _ _ e6 (SqT.of z6)
  walk_at "go"
  have hq5 := hq.ex0 e5
  obtain ⟨kvs, ss, ee0, yy, nn, kt, h1, h2, h3, h4, h5, h6, h7, h8, h9, h10, h11, h12⟩ := hq5
  refine ⟨q, _, rfl, DPut.k h1 (k := kS sEnds) (Nat.lt_of_le_of_lt h2 (by decide)), ?_⟩
  have eU : Ex [q] H5 (upd H5 q (.dK (putK kvs (kS sEnds) (.ref ee)))) := Ex.put (by simp)
  have zU : (upd H5 q (.dK (putK kvs (kS sEnds) (.ref ee)))) q = some (.dK (putK kvs (kS sEnds) (.ref ee))) := upd_same
  revert eU zU
  generalize upd H5 q (.dK (putK kvs (kS sEnds) (.ref ee))) = H6
  intro eU zU
  have keep : ∀ {t : Addr} {ys : List V}, SqT K H5 t ys → SqT K H6 t ys := fun h => sqT_non h1 (fun _ w => by cases w) (fun _ _ w => by cases w) eU h
  have get : ∀ {b : Addr} {o : HO}, H5 b = some o → (∀ kv, o ≠ .dK kv) → H6 b = some o := fun h hb => eU.get (by simp only [List.mem_singleton]; intro z; rw [z, h1] at h; exact hb _ (Option.some.inj h).symm) h
  have e06 : Ex [a] H H6 := Ex.dropN hq0 (e04.trans e5.wide) eU
  have p6 : PoolAt H6 a := (p4.ex e5 (by simp)).ex eU (by simpa using Ne.symm hqa)
  obtain ⟨D, hD, g, hDn', hDs', no⟩ : ∃ D : MD, MDAt K H6 q D ∧ GoodMD D ∧ D.n = D0.n ∧ D.s = s ∧ D.En = fun i => (i, 0) := by
    refine ⟨{ D0 with En := fun i => (i, 0) }, ⟨_, ss, ee, yy, nn, kt, zU, (by
      have : (putK kvs (kS sEnds) (V.ref ee)).length = kvs.length := by
        unfold putK
        rw [if_pos (by rw [valV_any, h5]; rfl), List.length_map]
      rw [this]
      exact h2), ?_, ?_, ?_, ?_, ?_, get h8 (fun _ w => by cases w), fun i hi c hc => ?_, ⟨xs, get z5 (fun _ w => by cases w), ⟨t5.1, fun i x l h1 h2 => ?_⟩⟩, get h11 (fun _ w => by cases w), get h12 (fun _ w => by cases w)⟩, ⟨g0.n1, g0.n6, g0.s, g0.srt, g0.nm, g0.len, g0.T, fun i hi => ⟨hi, by show (0 : Int).natAbs ≤ _; decide⟩, g0.ys⟩, rfl, hDs, rfl⟩
    · rw [valV_put, if_neg (by rw [kS_iff]; decide)]; exact h3
    · rw [valV_put, if_neg (by rw [kS_iff]; decide)]; exact h4
    · rw [valV_put, if_pos rfl]
    · rw [valV_put, if_neg (by rw [kS_iff]; decide)]; exact h6
    · rw [valV_put, if_neg (by rw [kS_iff]; decide)]; exact h7
    · obtain ⟨p, z1, z2⟩ := h9 i hi c hc
      exact ⟨p, z1, keep z2⟩
    · obtain ⟨p, z1, z2⟩ := t5.2 i x l h1 h2
      exact ⟨p, z1, keep z2⟩
  clear hq h1 h2 h3 h4 h5 h6 h7 h8 h9 h10 h11 h12 eU zU keep get t5 z5 e5 e04 p4 nee
  walk_at "go"
  refine u_loopP hD g fun x H7 e7 hx => ?_
  have hD7 := hD.ex0 e7
  obtain ⟨kvs, ss, ee0, yy, nn, kt, h1, h2, h3, _⟩ := id hD7
  have p7 := p6.ex e7 (by simp)
  have e07 : Ex [a] H H7 := e06.trans e7.wide
  walk_at "go"
  refine s_dk h1 h3 ?_
  rw [hDs']
  have noT : NoTurn (loopD D) := by
    show enOf (turnsD D) = fun a => (a, 0)
    funext b
    unfold enOf
    cases hf : (turnsD D).find? fun t => decide (t.a = b) with
    | none => rfl
    | some t =>
      have h0 := List.find?_some hf
      have h1 : t.a = b := of_decide_eq_true h0
      obtain ⟨i, hi, rfl⟩ := List.mem_map.mp (List.mem_of_find?_eq_some hf)
      rw [no] at h1 ⊢
      show (D.nm.getD i [], (0 : Int)) = (b, 0)
      rw [← h1]
  have gM := loopD_good g
  have bM := loopD_bnd g
  have hab : (loopD D).ab = s := by show sgn D.s = s; rw [hDs']; exact hsrt
  clear hD hD7 h1 h2 h3 e7 e06 p6 no
  walk_at "go"
  rename_i tp H8 ntp e8 z8 r3 H9 r30 r31 e9 p9
  have p8 := p7.ex e8 (by simp)
  have hx9 := (hx.ex0 e8).exP p8 e9
  have e09 : Ex [a] H H9 := (e07.trans e8.wide).trans e9
  have hsl1 : 1 ≤ s.length := by omega
  clear e8 e9 z8 ntp p7 p8 hx e07
  refine lc_run walk_range (by omega) [a] (fun H2 => PoolAt H2 a) (fun i acc _ => ∃ ls : List Nat, acc = ls.map (fun c => vS [c]) ∧ ls.length = i ∧ ∀ c ∈ ls, c ∈ s) (fun b hb => by rw [List.mem_singleton.mp hb]; exact p9.there) p9 ⟨[], rfl, rfl, by simp⟩
    (fun H2 D o n h => h.upd n) (fun _ _ _ _ _ _ h => h) (fun _ _ => trivial) ?_ ?_
  · rintro i acc y J J2 C1 C0 hi eJ pJ ⟨ls, rfl, hls, hin⟩ ⟨rfl, rfl⟩ k1 k0
    refine ⟨wipe1 _ _ _, ?_⟩
    refine s_yes ?_
    walk_at "go"
    rename_i r4 J3 r40 r41 e6 p6
    obtain ⟨c, hc⟩ : ∃ c, s[r4.toNat]? = some c := ⟨_, List.getElem?_eq_getElem (by omega)⟩
    refine s_ixS (by walk_at "sz") (atI_of r40 hc) ?_
    refine k1 _ _ e6 p6 ⟨ls ++ [c], by rw [List.map_append]; rfl, by rw [List.length_append, hls]; rfl, fun x hx => ?_⟩
    rcases List.mem_append.mp hx with hx | hx
    · exact hin x hx
    · rw [List.mem_singleton.mp hx]; exact List.mem_of_getElem? hc
  rintro D2 H10 ys hD2 e10 p10 hd10 hyl ⟨ls, rfl, hls, hin⟩
  have hfl := flat1' ls
  refine s_join0 (ls := ls.map fun c => [c]) (by rw [List.map_map]; exact SqL.of hd10) (by rw [hfl]; omega) ?_
  rw [hfl]
  have hx10 := hx9.exP p9 e10
  have e010 := e09.trans e10
  have ll1 : 1 ≤ ls.length := by omega
  have ll7 : ls.length ≤ 7 := by omega
  have ls0 : ls ≠ [] := List.length_pos_iff.mp ll1
  clear hd10 hD2 hyl hfl hls e10 p9 hx9 e09
  refine s_gName ?_
  refine s_seq ?_
  refine s_par3 ?_
  walk_at "go"
  have hwL : isWord ls LET = true := isWord_mk ll1 (by omega) fun c hc => isWord_in hs.1 c (hin c hc)
  refine u_makeRing hwL fun rg H11 nrg e11 h11 => ?_
  have p11 := p10.ex e11 (by simp)
  have hx11 := hx10.ex0 e11
  have e011 : Ex [a] H H11 := e010.trans e11.wide
  have hid : leastT (leastT ls) = leastT ls := leastT_idem ls0
  have lm : ∀ {c}, c ∈ leastT ls → c ∈ s := fun hc => hin _ ((leastT_mem ls0).mp hc)
  have llen := leastT_len ls0
  generalize leastT ls = l at hid lm llen h11
  have l0 : l ≠ [] := fun z => by rw [z] at llen; simp at llen; omega
  have hlL : isWord l LET = true := isWord_mk (by omega) (by omega) fun c hc => isWord_in hs.1 c (lm hc)
  clear e11 nrg hwL p10 hx10 e010
  walk_at "go"
  rename_i r5 H12 r50 r51 e12 p12 r6 H13 r60 r61 e13 p13
  refine s_trip ?_
  have e1113 := e12.trans e13
  have hrga : rg ≠ a := fun z => by
    obtain ⟨dx, h⟩ := h11
    obtain ⟨y1, y2, y3, hh⟩ := p11
    rw [z, hh] at h
    cases h
  have h13 : RingAt K H13 rg l := h11.ex e1113 (by simpa using hrga)
  have hx13 := (hx11.exP p11 e12).exP p12 e13
  have e013 := e011.trans e1113
  have t1 : 1 ≤ 1 + r5 ∧ 1 + r5 ≤ 6 := by omega
  generalize 1 + r5 = t at t1
  have htl : (l.length : Int) * t ≤ 42 := Int.le_trans (Int.mul_le_mul (show (l.length : Int) ≤ 7 by omega) t1.2 (by omega) (by omega)) (by decide)
  have htl2 : t.toNat * l.length ≤ 42 := Nat.le_trans (Nat.mul_le_mul (show t.toNat ≤ 6 by omega) (show l.length ≤ 7 by omega)) (by decide)
  have hrep := leastT_rep (k := t.toNat) l0 (by omega) hid
  have hper := leastP_rep (k := t.toNat) l0 (by omega)
  have hrr := readW_rep (l := l) (t := t.toNat) (by omega) (by omega) (r6 - 1)
  have hrl : (rep t.toNat l).length = t.toNat * l.length := rep_length _ _
  clear e12 e13 e1113 p11 p12 h11 hx11 e011 r50 r51 hrga
  walk_at "go"
  refine u_methRing h13 rfl ?_
  walk_at "go"
  refine u_turned h13 (by omega) (by omega) ?_
  walk_at "go"
  refine u_mulRing h13 hlL t1.1 (by omega) fun rg2 H14 nrg2 e14 h14 => ?_
  rw [hrep] at h14
  walk_at "go"
  refine u_methRing h14 rfl ?_
  walk_at "go"
  refine u_turned h14 (by rw [hrl]; exact Nat.mul_pos (by omega) (by omega)) (by omega) ?_
  rw [hrl, hrr]
  have hwin : ∀ c ∈ readW l (r6 - 1) l.length, c ∈ s := fun c hc => lm (readW_mem (by omega) hc)
  have hwl := readW_len l (r6 - 1) l.length
  generalize readW l (r6 - 1) l.length = w at hwin hwl
  have h1314 := h13.ex e14 (by simp)
  have hx14 := hx13.ex0 e14
  have e014 : Ex [a] H H14 := e013.trans e14.wide
  have hwm : ∀ c ∈ w, c ∈ (loopD D).ab := fun c hc => by rw [hab]; exact hwin c hc
  have hw : inAb (loopD D) w := ⟨by omega, by omega, hwm⟩
  have wrl : (rep t.toNat w).length = t.toNat * l.length := by rw [rep_length, hwl]
  have hwr : inAb (loopD D) (rep t.toNat w) := by
    refine ⟨by rw [wrl]; exact Nat.mul_pos (by omega) (by omega), by omega, fun c hc => ?_⟩
    obtain ⟨y, hy, hc⟩ := List.mem_flatten.mp hc
    rw [List.eq_of_mem_replicate hy] at hc
    exact hwm c hc
  clear hrr h13 hx13 e013 e14 nrg2
  walk_at "go"
  refine s_mulS (by omega) (by omega) (by rw [hwl, Nat.mul_comm]; omega) ?_
  walk_at "go"
  refine s_F (by simp) ?_
  walk_at "go"
  refine u_mulRing h1314 hlL t1.1 (by omega) fun rg3 H15 nrg3 e15 h15 => ?_
  rw [hrep] at h15
  walk_at "go"
  refine u_periodP h15 (by omega) ?_
  rw [hper]
  walk_at "go"
  refine u_periodP (h1314.ex e15 (by simp)) (by omega) ?_
  have hx15 := hx14.ex0 e15
  have e015 : Ex [a] H H15 := e014.trans e15.wide
  walk_at "go"
  have hm2 : ∀ i : Int, i ≤ 99 → i < 2 ^ 200 := fun i hi => Int.lt_of_le_of_lt hi (by decide)
  refine u_methLoop hx15 rfl ?_
  walk_at "go"
  refine u_ltotal hx15 gM bM hw (by omega) (hm2 _ (by omega)) fun H16 e16 => ?_
  walk_at "go"
  have hx16 := hx15.ex0 e16
  refine s_inst ?_
  walk_at "go"
  refine u_inst ?_
  walk_at "go"
  refine s_insC hx16 ?_
  refine u_lcall hx16 gM hwr (by omega) (by omega) fun told H17 e17 t17 => ?_
  walk_at "go"
  obtain ⟨xs, x1, x2, x3⟩ := t17
  have hxl : 0 < xs.length := by rw [x2, ansV_len]; decide
  obtain ⟨pi, hpi, spi⟩ := x3 0 _ [V.int (cnt (loopD D) (rep t.toNat w) 0), .bl (decide (orb (loopD D) (rep t.toNat w) 1 ∈ (loopD D).ok))] (List.getElem?_eq_getElem hxl) rfl
  refine s_ixT x1 (atI_of (by omega) (by rw [show (0 : Int).toNat = 0 from rfl, List.getElem?_eq_getElem hxl, hpi])) ?_
  walk_at "go"
  have ec : cnt (loopD D) (rep t.toNat w) 0 = tot (cnt (loopD D) w) t.toNat := by
    rw [cnt_rep noT, Nat.mul_zero]
    congr 1
    funext j
    rw [Nat.zero_add]
  rw [ec]
  walk_at "go"
  have hx17 := hx16.ex0 e17
  refine u_methLoop hx17 rfl ?_
  walk_at "go"
  refine u_lstate hx17 gM hw (by omega) fun H18 e18 => ?_
  walk_at "go"
  have hx18 := hx17.ex0 e18
  refine u_methLoop hx18 rfl ?_
  walk_at "go"
  refine u_lstate hx18 gM hwr (by omega) fun H19 e19 => ?_
  rw [orb_rep noT, show t.toNat * (1 : Int).toNat = t.toNat from Nat.mul_one _]
  walk_at "go"
  refine s_F (by simp) ?_
  walk_at "go"
  have hx19 := hx18.ex0 e19
  refine u_methLoop hx19 rfl ?_
  walk_at "go"
  refine u_lpace hx19 gM hw fun p1 H20 e20 h20 => ?_
  walk_at "go"
  have hx20 := hx19.ex0 e20
  refine u_methLoop hx20 rfl ?_
  walk_at "go"
  refine u_lpace hx20 gM hwr fun p2 H21 e21 h21 => ?_
  have hpr := pace_rep (w := w) noT gM hwm (t := t.toNat) (by omega)
  have b1 := pace_bnd gM bM hw
  have b2 := pace_bnd gM bM hwr
  have c1 := pace_le gM hw.2.2
  have c2 := pace_le gM hwr.2.2
  have st6 := gM.st.2.1
  generalize (paceV (loopD D) w).1 = A1 at *
  generalize (paceV (loopD D) w).2 = B1 at *
  generalize (paceV (loopD D) (rep t.toNat w)).1 = A2 at *
  generalize (paceV (loopD D) (rep t.toNat w)).2 = B2 at *
  have hA1 : A1.natAbs < 2 ^ 300 := Nat.lt_of_le_of_lt b1 (by decide +kernel)
  have hA2 : A2.natAbs < 2 ^ 300 := Nat.lt_of_le_of_lt b2 (by decide +kernel)
  have hB1 : B1.natAbs < 2 ^ 10 := by omega
  have hB2 : B2.natAbs < 2 ^ 10 := by omega
  have ht10 : t.natAbs < 2 ^ 10 := by omega
  have htA : (A1 * t).natAbs < 2 ^ 400 := by
    rw [Int.natAbs_mul]
    exact Nat.lt_of_lt_of_le (Nat.mul_lt_mul'' hA1 ht10) (by decide +kernel)
  walk_at "go"
  refine s_mulW (wide_mul (a := 300) (b := 10) hA1 ht10 (by decide) (by decide) (by decide)) ?_
  walk_at "go"
  refine s_mulW (wide_mul (a := 400) (b := 10) htA hB2 (by decide) (by decide) (by decide)) ?_
  walk_at "go"
  refine s_mulW (wide_mul (a := 300) (b := 10) hA2 hB1 (by decide) (by decide) (by decide)) ?_
  rw [hpr, Int.toNat_of_nonneg (show 0 ≤ t by omega), Int.mul_comm A1 t]
  refine s_eqI ?_
  rw [decide_eq_true rfl]
  exact k _ (e015.trans (e16.trans (e17.trans (e18.trans (e19.trans (e20.trans e21))))).wide)
end
end WB
namespace WB
open PySem PySem.Spec PyProof.Rows L2
structure Tx (K : Fr') (mg : Str → Option Value) : Prop where
  c : SaysW fa fn ex K
  h : ∃ h : Heap, K.In h ∧ h.Ns mainGlobals mg
theorem Tx.g_is_integer {K : Fr'} {mg : Str → Option Value} (T : Tx K mg) : mg "is_integer" = some (.ref (He.ga K "is_integer")) := by
  obtain ⟨h, X, G⟩ := T.h
  exact He.glo_ok X G (T.c.fact 0)
theorem Tx.g_is_within {K : Fr'} {mg : Str → Option Value} (T : Tx K mg) : mg "is_within" = some (.ref (He.ga K "is_within")) := by
  obtain ⟨h, X, G⟩ := T.h
  exact He.glo_ok X G (T.c.fact 1)
theorem Tx.g_is_name {K : Fr'} {mg : Str → Option Value} (T : Tx K mg) : mg "is_name" = some (.ref (He.ga K "is_name")) := by
  obtain ⟨h, X, G⟩ := T.h
  exact He.glo_ok X G (T.c.fact 2)
theorem Tx.g_is_word {K : Fr'} {mg : Str → Option Value} (T : Tx K mg) : mg "is_word" = some (.ref (He.ga K "is_word")) := by
  obtain ⟨h, X, G⟩ := T.h
  exact He.glo_ok X G (T.c.fact 3)
theorem Tx.g_is_row {K : Fr'} {mg : Str → Option Value} (T : Tx K mg) : mg "is_row" = some (.ref (He.ga K "is_row")) := by
  obtain ⟨h, X, G⟩ := T.h
  exact He.glo_ok X G (T.c.fact 4)
theorem Tx.g_least_turning {K : Fr'} {mg : Str → Option Value} (T : Tx K mg) : mg "least_turning" = some (.ref (He.ga K "least_turning")) := by
  obtain ⟨h, X, G⟩ := T.h
  exact He.glo_ok X G (T.c.fact 5)
theorem Tx.g_least_period {K : Fr'} {mg : Str → Option Value} (T : Tx K mg) : mg "least_period" = some (.ref (He.ga K "least_period")) := by
  obtain ⟨h, X, G⟩ := T.h
  exact He.glo_ok X G (T.c.fact 6)
theorem Tx.g_check_signs {K : Fr'} {mg : Str → Option Value} (T : Tx K mg) : mg "check_signs" = some (.ref (He.ga K "check_signs")) := by
  obtain ⟨h, X, G⟩ := T.h
  exact He.glo_ok X G (T.c.fact 7)
theorem Tx.g_lowest_terms {K : Fr'} {mg : Str → Option Value} (T : Tx K mg) : mg "lowest_terms" = some (.ref (He.ga K "lowest_terms")) := by
  obtain ⟨h, X, G⟩ := T.h
  exact He.glo_ok X G (T.c.fact 8)
theorem Tx.g_place_of {K : Fr'} {mg : Str → Option Value} (T : Tx K mg) : mg "place_of" = some (.ref (He.ga K "place_of")) := by
  obtain ⟨h, X, G⟩ := T.h
  exact He.glo_ok X G (T.c.fact 9)
theorem Tx.g_is_step {K : Fr'} {mg : Str → Option Value} (T : Tx K mg) : mg "is_step" = some (.ref (He.ga K "is_step")) := by
  obtain ⟨h, X, G⟩ := T.h
  exact He.glo_ok X G (T.c.fact 10)
theorem Tx.g_is_turn {K : Fr'} {mg : Str → Option Value} (T : Tx K mg) : mg "is_turn" = some (.ref (He.ga K "is_turn")) := by
  obtain ⟨h, X, G⟩ := T.h
  exact He.glo_ok X G (T.c.fact 11)
theorem Tx.g_check_states {K : Fr'} {mg : Str → Option Value} (T : Tx K mg) : mg "check_states" = some (.ref (He.ga K "check_states")) := by
  obtain ⟨h, X, G⟩ := T.h
  exact He.glo_ok X G (T.c.fact 12)
theorem Tx.g_check_rows {K : Fr'} {mg : Str → Option Value} (T : Tx K mg) : mg "check_rows" = some (.ref (He.ga K "check_rows")) := by
  obtain ⟨h, X, G⟩ := T.h
  exact He.glo_ok X G (T.c.fact 13)
theorem Tx.g_check_turns {K : Fr'} {mg : Str → Option Value} (T : Tx K mg) : mg "check_turns" = some (.ref (He.ga K "check_turns")) := by
  obtain ⟨h, X, G⟩ := T.h
  exact He.glo_ok X G (T.c.fact 14)
theorem Tx.g_check_yes {K : Fr'} {mg : Str → Option Value} (T : Tx K mg) : mg "check_yes" = some (.ref (He.ga K "check_yes")) := by
  obtain ⟨h, X, G⟩ := T.h
  exact He.glo_ok X G (T.c.fact 15)
theorem Tx.g_lawP_purse {K : Fr'} {mg : Str → Option Value} (T : Tx K mg) : mg "_law_purse" = some (.ref (He.ga K "_law_purse")) := by
  obtain ⟨h, X, G⟩ := T.h
  exact He.glo_ok X G (T.c.fact 16)
theorem Tx.g_lawP_pick {K : Fr'} {mg : Str → Option Value} (T : Tx K mg) : mg "_law_pick" = some (.ref (He.ga K "_law_pick")) := by
  obtain ⟨h, X, G⟩ := T.h
  exact He.glo_ok X G (T.c.fact 17)
theorem Tx.g_lawP_names {K : Fr'} {mg : Str → Option Value} (T : Tx K mg) : mg "_law_names" = some (.ref (He.ga K "_law_names")) := by
  obtain ⟨h, X, G⟩ := T.h
  exact He.glo_ok X G (T.c.fact 18)
theorem Tx.g_lawP_signs {K : Fr'} {mg : Str → Option Value} (T : Tx K mg) : mg "_law_signs" = some (.ref (He.ga K "_law_signs")) := by
  obtain ⟨h, X, G⟩ := T.h
  exact He.glo_ok X G (T.c.fact 19)
theorem Tx.g_lawP_amount {K : Fr'} {mg : Str → Option Value} (T : Tx K mg) : mg "_law_amount" = some (.ref (He.ga K "_law_amount")) := by
  obtain ⟨h, X, G⟩ := T.h
  exact He.glo_ok X G (T.c.fact 20)
theorem Tx.g_lawP_model {K : Fr'} {mg : Str → Option Value} (T : Tx K mg) : mg "_law_model" = some (.ref (He.ga K "_law_model")) := by
  obtain ⟨h, X, G⟩ := T.h
  exact He.glo_ok X G (T.c.fact 21)
theorem Tx.g_lawP_loop {K : Fr'} {mg : Str → Option Value} (T : Tx K mg) : mg "_law_loop" = some (.ref (He.ga K "_law_loop")) := by
  obtain ⟨h, X, G⟩ := T.h
  exact He.glo_ok X G (T.c.fact 22)
theorem Tx.g_law_right {K : Fr'} {mg : Str → Option Value} (T : Tx K mg) : mg "_law_right" = some (.ref (He.ga K "_law_right")) := by
  obtain ⟨h, X, G⟩ := T.h
  exact He.glo_ok X G (T.c.fact 23)
theorem Tx.g_law {K : Fr'} {mg : Str → Option Value} (T : Tx K mg) : mg "law" = some (.ref (He.ga K "law")) := by
  obtain ⟨h, X, G⟩ := T.h
  exact He.glo_ok X G (T.c.fact 24)
theorem Tx.g_LETTERS {K : Fr'} {mg : Str → Option Value} (T : Tx K mg) : ∃ t, mg "LETTERS" = some (.str "abcdefghijklmnopqrstuvwxyz" t) := by
  obtain ⟨h, X, G⟩ := T.h
  exact He.str_ok X G (T.c.fact 25)
theorem Tx.g_LONGEST_NAME {K : Fr'} {mg : Str → Option Value} (T : Tx K mg) : ∃ t, mg "LONGEST_NAME" = some (.int 8 t) := by
  obtain ⟨h, X, G⟩ := T.h
  exact He.int_ok X G (T.c.fact 26)
theorem Tx.g_Loop {K : Fr'} {mg : Str → Option Value} (T : Tx K mg) : mg "Loop" = some (.ref (He.ga K "Loop")) := by
  obtain ⟨h, X, G⟩ := T.h
  exact He.glo_ok X G (T.c.fact 27)
theorem Tx.g_MARKS {K : Fr'} {mg : Str → Option Value} (T : Tx K mg) : ∃ t, mg "MARKS" = some (.str "abcdefghijklmnopqrstuvwxyz0123456789" t) := by
  obtain ⟨h, X, G⟩ := T.h
  exact He.str_ok X G (T.c.fact 28)
theorem Tx.g_MOST_ROUNDS {K : Fr'} {mg : Str → Option Value} (T : Tx K mg) : ∃ t, mg "MOST_ROUNDS" = some (.int 99 t) := by
  obtain ⟨h, X, G⟩ := T.h
  exact He.int_ok X G (T.c.fact 29)
theorem Tx.g_MOST_SIGNS {K : Fr'} {mg : Str → Option Value} (T : Tx K mg) : ∃ t, mg "MOST_SIGNS" = some (.int 4 t) := by
  obtain ⟨h, X, G⟩ := T.h
  exact He.int_ok X G (T.c.fact 30)
theorem Tx.g_MOST_STATES {K : Fr'} {mg : Str → Option Value} (T : Tx K mg) : ∃ t, mg "MOST_STATES" = some (.int 6 t) := by
  obtain ⟨h, X, G⟩ := T.h
  exact He.int_ok X G (T.c.fact 31)
theorem Tx.g_MOST_WORD {K : Fr'} {mg : Str → Option Value} (T : Tx K mg) : ∃ t, mg "MOST_WORD" = some (.int 600 t) := by
  obtain ⟨h, X, G⟩ := T.h
  exact He.int_ok X G (T.c.fact 32)
theorem Tx.g_Ring {K : Fr'} {mg : Str → Option Value} (T : Tx K mg) : mg "Ring" = some (.ref (He.ga K "Ring")) := by
  obtain ⟨h, X, G⟩ := T.h
  exact He.glo_ok X G (T.c.fact 33)
theorem Tx.n_abs {K : Fr'} {mg : Str → Option Value} (T : Tx K mg) : mg "abs" = none := by
  obtain ⟨h, X, G⟩ := T.h
  exact He.free_ok X G (T.c.fact 34)
theorem Tx.n_all {K : Fr'} {mg : Str → Option Value} (T : Tx K mg) : mg "all" = none := by
  obtain ⟨h, X, G⟩ := T.h
  exact He.free_ok X G (T.c.fact 35)
theorem Tx.n_bool {K : Fr'} {mg : Str → Option Value} (T : Tx K mg) : mg "bool" = none := by
  obtain ⟨h, X, G⟩ := T.h
  exact He.free_ok X G (T.c.fact 36)
theorem Tx.n_divmod {K : Fr'} {mg : Str → Option Value} (T : Tx K mg) : mg "divmod" = none := by
  obtain ⟨h, X, G⟩ := T.h
  exact He.free_ok X G (T.c.fact 37)
theorem Tx.n_enumerate {K : Fr'} {mg : Str → Option Value} (T : Tx K mg) : mg "enumerate" = none := by
  obtain ⟨h, X, G⟩ := T.h
  exact He.free_ok X G (T.c.fact 38)
theorem Tx.n_int {K : Fr'} {mg : Str → Option Value} (T : Tx K mg) : mg "int" = none := by
  obtain ⟨h, X, G⟩ := T.h
  exact He.free_ok X G (T.c.fact 39)
theorem Tx.n_isinstance {K : Fr'} {mg : Str → Option Value} (T : Tx K mg) : mg "isinstance" = none := by
  obtain ⟨h, X, G⟩ := T.h
  exact He.free_ok X G (T.c.fact 40)
theorem Tx.n_len {K : Fr'} {mg : Str → Option Value} (T : Tx K mg) : mg "len" = none := by
  obtain ⟨h, X, G⟩ := T.h
  exact He.free_ok X G (T.c.fact 41)
theorem Tx.n_max {K : Fr'} {mg : Str → Option Value} (T : Tx K mg) : mg "max" = none := by
  obtain ⟨h, X, G⟩ := T.h
  exact He.free_ok X G (T.c.fact 42)
theorem Tx.n_min {K : Fr'} {mg : Str → Option Value} (T : Tx K mg) : mg "min" = none := by
  obtain ⟨h, X, G⟩ := T.h
  exact He.free_ok X G (T.c.fact 43)
theorem Tx.n_range {K : Fr'} {mg : Str → Option Value} (T : Tx K mg) : mg "range" = none := by
  obtain ⟨h, X, G⟩ := T.h
  exact He.free_ok X G (T.c.fact 44)
theorem Tx.n_set {K : Fr'} {mg : Str → Option Value} (T : Tx K mg) : mg "set" = none := by
  obtain ⟨h, X, G⟩ := T.h
  exact He.free_ok X G (T.c.fact 45)
theorem Tx.n_sorted {K : Fr'} {mg : Str → Option Value} (T : Tx K mg) : mg "sorted" = none := by
  obtain ⟨h, X, G⟩ := T.h
  exact He.free_ok X G (T.c.fact 46)
theorem Tx.n_str {K : Fr'} {mg : Str → Option Value} (T : Tx K mg) : mg "str" = none := by
  obtain ⟨h, X, G⟩ := T.h
  exact He.free_ok X G (T.c.fact 47)
theorem Tx.n_sum {K : Fr'} {mg : Str → Option Value} (T : Tx K mg) : mg "sum" = none := by
  obtain ⟨h, X, G⟩ := T.h
  exact He.free_ok X G (T.c.fact 48)
theorem Tx.n_tuple {K : Fr'} {mg : Str → Option Value} (T : Tx K mg) : mg "tuple" = none := by
  obtain ⟨h, X, G⟩ := T.h
  exact He.free_ok X G (T.c.fact 49)
theorem Tx.c_Ring {K : Fr'} {mg : Str → Option Value} (T : Tx K mg) : Cls K (He.ga K "Ring") := He.cls_ok (T.c.fact 50)
theorem Tx.na_Ring_least {K : Fr'} {mg : Str → Option Value} (T : Tx K mg) : NoAttr K (He.ga K "Ring") "least" := He.noat_ok (T.c.fact 51)
theorem Tx.ins_Ring {K : Fr'} {mg : Str → Option Value} (T : Tx K mg) : insB "Ring" K = true := T.c.more 0
theorem Tx.no_Ring {K : Fr'} {mg : Str → Option Value} (T : Tx K mg) : noB "Ring" K = true := T.c.more 1
theorem Tx.mk_Ring {K : Fr'} {mg : Str → Option Value} (T : Tx K mg) : Mk K (He.ga K "Ring") (He.ma K (He.ga K "Ring") "__init__") := He.mkr_ok (T.c.fact 52)
theorem Tx.c_Loop {K : Fr'} {mg : Str → Option Value} (T : Tx K mg) : Cls K (He.ga K "Loop") := He.cls_ok (T.c.fact 53)
theorem Tx.na_Loop_letters {K : Fr'} {mg : Str → Option Value} (T : Tx K mg) : NoAttr K (He.ga K "Loop") "letters" := He.noat_ok (T.c.fact 54)
theorem Tx.na_Loop_order {K : Fr'} {mg : Str → Option Value} (T : Tx K mg) : NoAttr K (He.ga K "Loop") "order" := He.noat_ok (T.c.fact 55)
theorem Tx.na_Loop_table {K : Fr'} {mg : Str → Option Value} (T : Tx K mg) : NoAttr K (He.ga K "Loop") "table" := He.noat_ok (T.c.fact 56)
theorem Tx.na_Loop_ending {K : Fr'} {mg : Str → Option Value} (T : Tx K mg) : NoAttr K (He.ga K "Loop") "ending" := He.noat_ok (T.c.fact 57)
theorem Tx.na_Loop_marked {K : Fr'} {mg : Str → Option Value} (T : Tx K mg) : NoAttr K (He.ga K "Loop") "marked" := He.noat_ok (T.c.fact 58)
theorem Tx.ins_Loop {K : Fr'} {mg : Str → Option Value} (T : Tx K mg) : insB "Loop" K = true := T.c.more 2
theorem Tx.no_Loop {K : Fr'} {mg : Str → Option Value} (T : Tx K mg) : noB "Loop" K = true := T.c.more 3
theorem Tx.mk_Loop {K : Fr'} {mg : Str → Option Value} (T : Tx K mg) : Mk K (He.ga K "Loop") (He.ma K (He.ga K "Loop") "__init__") := He.mkr_ok (T.c.fact 59)
theorem Tx.co_Loop {K : Fr'} {mg : Str → Option Value} (T : Tx K mg) : StX.CallO K (He.ga K "Loop") (He.ma K (He.ga K "Loop") "__call__") := coB_ok (T.c.more 4)
theorem Tx.m_Ring_stretch {K : Fr'} {mg : Str → Option Value} (T : Tx K mg) : Meth K (He.ga K "Ring") "stretch" (He.ma K (He.ga K "Ring") "stretch") := He.meth_ok (T.c.fact 60)
theorem Tx.m_Ring_turned {K : Fr'} {mg : Str → Option Value} (T : Tx K mg) : Meth K (He.ga K "Ring") "turned" (He.ma K (He.ga K "Ring") "turned") := He.meth_ok (T.c.fact 61)
theorem Tx.p_Ring_period {K : Fr'} {mg : Str → Option Value} (T : Tx K mg) : PropOf K (He.ga K "Ring") "period" (He.ma K (He.ga K "Ring") "period") (He5.wf K (He.ga K "Ring") "property" "period") := propB_ok (T.c.more 5)
theorem Tx.bt_Ring_mul {K : Fr'} {mg : Str → Option Value} (T : Tx K mg) : BinT K (He.ga K "Ring") "mul" "int" (He.ma K (He.ga K "Ring") "__mul__") := binB_ok (T.c.more 6)
theorem Tx.m_Loop_round_from {K : Fr'} {mg : Str → Option Value} (T : Tx K mg) : Meth K (He.ga K "Loop") "round_from" (He.ma K (He.ga K "Loop") "round_from") := He.meth_ok (T.c.fact 62)
theorem Tx.m_Loop_history {K : Fr'} {mg : Str → Option Value} (T : Tx K mg) : Meth K (He.ga K "Loop") "history" (He.ma K (He.ga K "Loop") "history") := He.meth_ok (T.c.fact 63)
theorem Tx.m_Loop_state {K : Fr'} {mg : Str → Option Value} (T : Tx K mg) : Meth K (He.ga K "Loop") "state" (He.ma K (He.ga K "Loop") "state") := He.meth_ok (T.c.fact 64)
theorem Tx.m_Loop_total {K : Fr'} {mg : Str → Option Value} (T : Tx K mg) : Meth K (He.ga K "Loop") "total" (He.ma K (He.ga K "Loop") "total") := He.meth_ok (T.c.fact 65)
theorem Tx.m_Loop_pace {K : Fr'} {mg : Str → Option Value} (T : Tx K mg) : Meth K (He.ga K "Loop") "pace" (He.ma K (He.ga K "Loop") "pace") := He.meth_ok (T.c.fact 66)
theorem Tx.loopK {K : Fr'} {mg : Str → Option Value} (T : Tx K mg) : LoopK K := ⟨T.c_Loop, T.na_Loop_letters, T.na_Loop_order, T.na_Loop_table, T.na_Loop_ending, T.na_Loop_marked⟩
theorem Tx.loopI {K : Fr'} {mg : Str → Option Value} (T : Tx K mg) : LoopI K := ⟨(insB_ok T.c_Loop T.ins_Loop).1, (insB_ok T.c_Loop T.ins_Loop).2⟩
theorem Tx.ringK {K : Fr'} {mg : Str → Option Value} (T : Tx K mg) : RingK K := ⟨T.c_Ring, T.na_Ring_least, (insB_ok T.c_Ring T.ins_Ring).1, (insB_ok T.c_Ring T.ins_Ring).2, noB_ok T.no_Ring⟩
theorem Tx.f_is_integer {K : Fr'} {mg : Str → Option Value} (T : Tx K mg) : FunD K "is_integer" "is_integer" (defArgs st_is_integer) (defBody st_is_integer) (defScope st_is_integer) (d_is_integer.dvs K) (d_is_integer.kws K) (He.ga K "is_integer") (fdOf K (He.ga K "is_integer")) := T.c.def_ 0 (d := d_is_integer)
theorem Tx.k_is_integer {K : Fr'} {mg : Str → Option Value} (T : Tx K mg) : PySem.W.keepIn K (.ref (He.ga K "is_integer")) = true := T.f_is_integer.kp
theorem Tx.b_is_integer {K : Fr'} {mg : Str → Option Value} (T : Tx K mg) : Binds K (fdOf K (He.ga K "is_integer")) ["value"] [] := FunD.bindsN (kws := d_is_integer.kws K) (T.f_is_integer) fun _ _ _ _ _ _ us hl => match us, hl with | [_], _ => rfl
theorem Tx.f_is_within {K : Fr'} {mg : Str → Option Value} (T : Tx K mg) : FunD K "is_within" "is_within" (defArgs st_is_within) (defBody st_is_within) (defScope st_is_within) (d_is_within.dvs K) (d_is_within.kws K) (He.ga K "is_within") (fdOf K (He.ga K "is_within")) := T.c.def_ 1 (d := d_is_within)
theorem Tx.k_is_within {K : Fr'} {mg : Str → Option Value} (T : Tx K mg) : PySem.W.keepIn K (.ref (He.ga K "is_within")) = true := T.f_is_within.kp
theorem Tx.b_is_within {K : Fr'} {mg : Str → Option Value} (T : Tx K mg) : Binds K (fdOf K (He.ga K "is_within")) ["value", "least", "most"] [] := FunD.bindsN (kws := d_is_within.kws K) (T.f_is_within) fun _ _ _ _ _ _ us hl => match us, hl with | [_, _, _], _ => rfl
theorem Tx.f_is_name {K : Fr'} {mg : Str → Option Value} (T : Tx K mg) : FunD K "is_name" "is_name" (defArgs st_is_name) (defBody st_is_name) (defScope st_is_name) (d_is_name.dvs K) (d_is_name.kws K) (He.ga K "is_name") (fdOf K (He.ga K "is_name")) := T.c.def_ 2 (d := d_is_name)
theorem Tx.k_is_name {K : Fr'} {mg : Str → Option Value} (T : Tx K mg) : PySem.W.keepIn K (.ref (He.ga K "is_name")) = true := T.f_is_name.kp
theorem Tx.b_is_name {K : Fr'} {mg : Str → Option Value} (T : Tx K mg) : Binds K (fdOf K (He.ga K "is_name")) ["value"] [] := FunD.bindsN (kws := d_is_name.kws K) (T.f_is_name) fun _ _ _ _ _ _ us hl => match us, hl with | [_], _ => rfl
theorem Tx.f_is_word {K : Fr'} {mg : Str → Option Value} (T : Tx K mg) : FunD K "is_word" "is_word" (defArgs st_is_word) (defBody st_is_word) (defScope st_is_word) (d_is_word.dvs K) (d_is_word.kws K) (He.ga K "is_word") (fdOf K (He.ga K "is_word")) := T.c.def_ 3 (d := d_is_word)
theorem Tx.k_is_word {K : Fr'} {mg : Str → Option Value} (T : Tx K mg) : PySem.W.keepIn K (.ref (He.ga K "is_word")) = true := T.f_is_word.kp
theorem Tx.bf_is_word {K : Fr'} {mg : Str → Option Value} (T : Tx K mg) : Binds K (fdOf K (He.ga K "is_word")) ["value", "signs"] [] := by
  have h := FunD.binds1 (ps := ["value", "signs"]) (T.f_is_word) 2 1 (by simp [d_is_word, He5.DefA.dvs]) (by rfl) (fun _ _ _ _ _ _ _ us its h1 h2 => match us, its, h1, h2 with | [_, _], [_], _, _ => ⟨_, rfl, rfl⟩)
  obtain ⟨ds, hv, hb⟩ := h
  have e : (d_is_word.dvs K).drop 1 = [] := rfl
  rw [e] at hv
  cases hv
  exact hb
theorem Tx.bd1_is_word {K : Fr'} {mg : Str → Option Value} (T : Tx K mg) : ∃ ds, Vals [(vS LET)] ds ∧ Binds K (fdOf K (He.ga K "is_word")) ["value", "signs"] ds := by
  have h := FunD.binds1 (ps := ["value", "signs"]) (T.f_is_word) 1 0 (by simp [d_is_word, He5.DefA.dvs]) (by rfl) (fun _ _ _ _ _ _ _ us its h1 h2 => match us, its, h1, h2 with | [_], [_], _, _ => ⟨_, rfl, rfl⟩)
  obtain ⟨ds, hv, hb⟩ := h
  refine ⟨ds, ?_, hb⟩
  have e : (d_is_word.dvs K).drop 0 = [(vS LET)] := by
    simp only [d_is_word, He5.DefA.dvs, List.map, List.drop, He.Dv.v, lit_abc]
  rw [← e]
  exact hv
theorem Tx.f_is_row {K : Fr'} {mg : Str → Option Value} (T : Tx K mg) : FunD K "is_row" "is_row" (defArgs st_is_row) (defBody st_is_row) (defScope st_is_row) (d_is_row.dvs K) (d_is_row.kws K) (He.ga K "is_row") (fdOf K (He.ga K "is_row")) := T.c.def_ 4 (d := d_is_row)
theorem Tx.k_is_row {K : Fr'} {mg : Str → Option Value} (T : Tx K mg) : PySem.W.keepIn K (.ref (He.ga K "is_row")) = true := T.f_is_row.kp
theorem Tx.b_is_row {K : Fr'} {mg : Str → Option Value} (T : Tx K mg) : Binds K (fdOf K (He.ga K "is_row")) ["value", "length"] [] := FunD.bindsN (kws := d_is_row.kws K) (T.f_is_row) fun _ _ _ _ _ _ us hl => match us, hl with | [_, _], _ => rfl
theorem Tx.f_least_turning {K : Fr'} {mg : Str → Option Value} (T : Tx K mg) : FunD K "least_turning" "least_turning" (defArgs st_least_turning) (defBody st_least_turning) (defScope st_least_turning) (d_least_turning.dvs K) (d_least_turning.kws K) (He.ga K "least_turning") (fdOf K (He.ga K "least_turning")) := T.c.def_ 5 (d := d_least_turning)
theorem Tx.k_least_turning {K : Fr'} {mg : Str → Option Value} (T : Tx K mg) : PySem.W.keepIn K (.ref (He.ga K "least_turning")) = true := T.f_least_turning.kp
theorem Tx.b_least_turning {K : Fr'} {mg : Str → Option Value} (T : Tx K mg) : Binds K (fdOf K (He.ga K "least_turning")) ["text"] [] := FunD.bindsN (kws := d_least_turning.kws K) (T.f_least_turning) fun _ _ _ _ _ _ us hl => match us, hl with | [_], _ => rfl
theorem Tx.f_least_period {K : Fr'} {mg : Str → Option Value} (T : Tx K mg) : FunD K "least_period" "least_period" (defArgs st_least_period) (defBody st_least_period) (defScope st_least_period) (d_least_period.dvs K) (d_least_period.kws K) (He.ga K "least_period") (fdOf K (He.ga K "least_period")) := T.c.def_ 6 (d := d_least_period)
theorem Tx.k_least_period {K : Fr'} {mg : Str → Option Value} (T : Tx K mg) : PySem.W.keepIn K (.ref (He.ga K "least_period")) = true := T.f_least_period.kp
theorem Tx.b_least_period {K : Fr'} {mg : Str → Option Value} (T : Tx K mg) : Binds K (fdOf K (He.ga K "least_period")) ["text"] [] := FunD.bindsN (kws := d_least_period.kws K) (T.f_least_period) fun _ _ _ _ _ _ us hl => match us, hl with | [_], _ => rfl
theorem Tx.f_Ring_init {K : Fr'} {mg : Str → Option Value} (T : Tx K mg) : FunD K "__init__" "Ring.__init__" (defArgs st_Ring_init) (defBody st_Ring_init) (defScope st_Ring_init) (d_Ring_init.dvs K) (d_Ring_init.kws K) (He.ma K (He.ga K "Ring") "__init__") (fdOf K (He.ma K (He.ga K "Ring") "__init__")) := T.c.def_ 7 (d := d_Ring_init)
theorem Tx.k_Ring_init {K : Fr'} {mg : Str → Option Value} (T : Tx K mg) : PySem.W.keepIn K (.ref (He.ma K (He.ga K "Ring") "__init__")) = true := T.f_Ring_init.kp
theorem Tx.b_Ring_init {K : Fr'} {mg : Str → Option Value} (T : Tx K mg) : Binds K (fdOf K (He.ma K (He.ga K "Ring") "__init__")) ["self", "text"] [] := FunD.bindsN (kws := d_Ring_init.kws K) (T.f_Ring_init) fun _ _ _ _ _ _ us hl => match us, hl with | [_, _], _ => rfl
theorem Tx.f_Ring_stretch {K : Fr'} {mg : Str → Option Value} (T : Tx K mg) : FunD K "stretch" "Ring.stretch" (defArgs st_Ring_stretch) (defBody st_Ring_stretch) (defScope st_Ring_stretch) (d_Ring_stretch.dvs K) (d_Ring_stretch.kws K) (He.ma K (He.ga K "Ring") "stretch") (fdOf K (He.ma K (He.ga K "Ring") "stretch")) := T.c.def_ 8 (d := d_Ring_stretch)
theorem Tx.k_Ring_stretch {K : Fr'} {mg : Str → Option Value} (T : Tx K mg) : PySem.W.keepIn K (.ref (He.ma K (He.ga K "Ring") "stretch")) = true := T.f_Ring_stretch.kp
theorem Tx.b_Ring_stretch {K : Fr'} {mg : Str → Option Value} (T : Tx K mg) : Binds K (fdOf K (He.ma K (He.ga K "Ring") "stretch")) ["self", "place", "number"] [] := FunD.bindsN (kws := d_Ring_stretch.kws K) (T.f_Ring_stretch) fun _ _ _ _ _ _ us hl => match us, hl with | [_, _, _], _ => rfl
theorem Tx.f_Ring_turned {K : Fr'} {mg : Str → Option Value} (T : Tx K mg) : FunD K "turned" "Ring.turned" (defArgs st_Ring_turned) (defBody st_Ring_turned) (defScope st_Ring_turned) (d_Ring_turned.dvs K) (d_Ring_turned.kws K) (He.ma K (He.ga K "Ring") "turned") (fdOf K (He.ma K (He.ga K "Ring") "turned")) := T.c.def_ 9 (d := d_Ring_turned)
theorem Tx.k_Ring_turned {K : Fr'} {mg : Str → Option Value} (T : Tx K mg) : PySem.W.keepIn K (.ref (He.ma K (He.ga K "Ring") "turned")) = true := T.f_Ring_turned.kp
theorem Tx.b_Ring_turned {K : Fr'} {mg : Str → Option Value} (T : Tx K mg) : Binds K (fdOf K (He.ma K (He.ga K "Ring") "turned")) ["self", "i"] [] := FunD.bindsN (kws := d_Ring_turned.kws K) (T.f_Ring_turned) fun _ _ _ _ _ _ us hl => match us, hl with | [_, _], _ => rfl
theorem Tx.f_Ring_period {K : Fr'} {mg : Str → Option Value} (T : Tx K mg) : FunD K "period" "Ring.period" (defArgs st_Ring_period) (defBody st_Ring_period) (defScope st_Ring_period) (d_Ring_period.dvs K) (d_Ring_period.kws K) (He5.wf K (He.ga K "Ring") "property" "period") (fdOf K (He5.wf K (He.ga K "Ring") "property" "period")) := T.c.def_ 10 (d := d_Ring_period)
theorem Tx.k_Ring_period {K : Fr'} {mg : Str → Option Value} (T : Tx K mg) : PySem.W.keepIn K (.ref (He5.wf K (He.ga K "Ring") "property" "period")) = true := T.f_Ring_period.kp
theorem Tx.b_Ring_period {K : Fr'} {mg : Str → Option Value} (T : Tx K mg) : Binds K (fdOf K (He5.wf K (He.ga K "Ring") "property" "period")) ["self"] [] := FunD.bindsN (kws := d_Ring_period.kws K) (T.f_Ring_period) fun _ _ _ _ _ _ us hl => match us, hl with | [_], _ => rfl
theorem Tx.f_Ring_mul {K : Fr'} {mg : Str → Option Value} (T : Tx K mg) : FunD K "__mul__" "Ring.__mul__" (defArgs st_Ring_mul) (defBody st_Ring_mul) (defScope st_Ring_mul) (d_Ring_mul.dvs K) (d_Ring_mul.kws K) (He.ma K (He.ga K "Ring") "__mul__") (fdOf K (He.ma K (He.ga K "Ring") "__mul__")) := T.c.def_ 11 (d := d_Ring_mul)
theorem Tx.k_Ring_mul {K : Fr'} {mg : Str → Option Value} (T : Tx K mg) : PySem.W.keepIn K (.ref (He.ma K (He.ga K "Ring") "__mul__")) = true := T.f_Ring_mul.kp
theorem Tx.b_Ring_mul {K : Fr'} {mg : Str → Option Value} (T : Tx K mg) : Binds K (fdOf K (He.ma K (He.ga K "Ring") "__mul__")) ["self", "times"] [] := FunD.bindsN (kws := d_Ring_mul.kws K) (T.f_Ring_mul) fun _ _ _ _ _ _ us hl => match us, hl with | [_, _], _ => rfl
theorem Tx.f_check_signs {K : Fr'} {mg : Str → Option Value} (T : Tx K mg) : FunD K "check_signs" "check_signs" (defArgs st_check_signs) (defBody st_check_signs) (defScope st_check_signs) (d_check_signs.dvs K) (d_check_signs.kws K) (He.ga K "check_signs") (fdOf K (He.ga K "check_signs")) := T.c.def_ 12 (d := d_check_signs)
theorem Tx.k_check_signs {K : Fr'} {mg : Str → Option Value} (T : Tx K mg) : PySem.W.keepIn K (.ref (He.ga K "check_signs")) = true := T.f_check_signs.kp
theorem Tx.b_check_signs {K : Fr'} {mg : Str → Option Value} (T : Tx K mg) : Binds K (fdOf K (He.ga K "check_signs")) ["signs"] [] := FunD.bindsN (kws := d_check_signs.kws K) (T.f_check_signs) fun _ _ _ _ _ _ us hl => match us, hl with | [_], _ => rfl
theorem Tx.f_lowest_terms {K : Fr'} {mg : Str → Option Value} (T : Tx K mg) : FunD K "lowest_terms" "lowest_terms" (defArgs st_lowest_terms) (defBody st_lowest_terms) (defScope st_lowest_terms) (d_lowest_terms.dvs K) (d_lowest_terms.kws K) (He.ga K "lowest_terms") (fdOf K (He.ga K "lowest_terms")) := T.c.def_ 13 (d := d_lowest_terms)
theorem Tx.k_lowest_terms {K : Fr'} {mg : Str → Option Value} (T : Tx K mg) : PySem.W.keepIn K (.ref (He.ga K "lowest_terms")) = true := T.f_lowest_terms.kp
theorem Tx.b_lowest_terms {K : Fr'} {mg : Str → Option Value} (T : Tx K mg) : Binds K (fdOf K (He.ga K "lowest_terms")) ["number", "divisor"] [] := FunD.bindsN (kws := d_lowest_terms.kws K) (T.f_lowest_terms) fun _ _ _ _ _ _ us hl => match us, hl with | [_, _], _ => rfl
theorem Tx.f_place_of {K : Fr'} {mg : Str → Option Value} (T : Tx K mg) : FunD K "place_of" "place_of" (defArgs st_place_of) (defBody st_place_of) (defScope st_place_of) (d_place_of.dvs K) (d_place_of.kws K) (He.ga K "place_of") (fdOf K (He.ga K "place_of")) := T.c.def_ 14 (d := d_place_of)
theorem Tx.k_place_of {K : Fr'} {mg : Str → Option Value} (T : Tx K mg) : PySem.W.keepIn K (.ref (He.ga K "place_of")) = true := T.f_place_of.kp
theorem Tx.b_place_of {K : Fr'} {mg : Str → Option Value} (T : Tx K mg) : Binds K (fdOf K (He.ga K "place_of")) ["at", "size", "begin"] [] := FunD.bindsN (kws := d_place_of.kws K) (T.f_place_of) fun _ _ _ _ _ _ us hl => match us, hl with | [_, _, _], _ => rfl
theorem Tx.f_is_step {K : Fr'} {mg : Str → Option Value} (T : Tx K mg) : FunD K "is_step" "is_step" (defArgs st_is_step) (defBody st_is_step) (defScope st_is_step) (d_is_step.dvs K) (d_is_step.kws K) (He.ga K "is_step") (fdOf K (He.ga K "is_step")) := T.c.def_ 15 (d := d_is_step)
theorem Tx.k_is_step {K : Fr'} {mg : Str → Option Value} (T : Tx K mg) : PySem.W.keepIn K (.ref (He.ga K "is_step")) = true := T.f_is_step.kp
theorem Tx.b_is_step {K : Fr'} {mg : Str → Option Value} (T : Tx K mg) : Binds K (fdOf K (He.ga K "is_step")) ["row", "signs", "states"] [] := FunD.bindsN (kws := d_is_step.kws K) (T.f_is_step) fun _ _ _ _ _ _ us hl => match us, hl with | [_, _, _], _ => rfl
theorem Tx.f_is_turn {K : Fr'} {mg : Str → Option Value} (T : Tx K mg) : FunD K "is_turn" "is_turn" (defArgs st_is_turn) (defBody st_is_turn) (defScope st_is_turn) (d_is_turn.dvs K) (d_is_turn.kws K) (He.ga K "is_turn") (fdOf K (He.ga K "is_turn")) := T.c.def_ 16 (d := d_is_turn)
theorem Tx.k_is_turn {K : Fr'} {mg : Str → Option Value} (T : Tx K mg) : PySem.W.keepIn K (.ref (He.ga K "is_turn")) = true := T.f_is_turn.kp
theorem Tx.b_is_turn {K : Fr'} {mg : Str → Option Value} (T : Tx K mg) : Binds K (fdOf K (He.ga K "is_turn")) ["turn", "states"] [] := FunD.bindsN (kws := d_is_turn.kws K) (T.f_is_turn) fun _ _ _ _ _ _ us hl => match us, hl with | [_, _], _ => rfl
theorem Tx.f_check_states {K : Fr'} {mg : Str → Option Value} (T : Tx K mg) : FunD K "check_states" "check_states" (defArgs st_check_states) (defBody st_check_states) (defScope st_check_states) (d_check_states.dvs K) (d_check_states.kws K) (He.ga K "check_states") (fdOf K (He.ga K "check_states")) := T.c.def_ 17 (d := d_check_states)
theorem Tx.k_check_states {K : Fr'} {mg : Str → Option Value} (T : Tx K mg) : PySem.W.keepIn K (.ref (He.ga K "check_states")) = true := T.f_check_states.kp
theorem Tx.b_check_states {K : Fr'} {mg : Str → Option Value} (T : Tx K mg) : Binds K (fdOf K (He.ga K "check_states")) ["states"] [] := FunD.bindsN (kws := d_check_states.kws K) (T.f_check_states) fun _ _ _ _ _ _ us hl => match us, hl with | [_], _ => rfl
theorem Tx.f_check_rows {K : Fr'} {mg : Str → Option Value} (T : Tx K mg) : FunD K "check_rows" "check_rows" (defArgs st_check_rows) (defBody st_check_rows) (defScope st_check_rows) (d_check_rows.dvs K) (d_check_rows.kws K) (He.ga K "check_rows") (fdOf K (He.ga K "check_rows")) := T.c.def_ 18 (d := d_check_rows)
theorem Tx.k_check_rows {K : Fr'} {mg : Str → Option Value} (T : Tx K mg) : PySem.W.keepIn K (.ref (He.ga K "check_rows")) = true := T.f_check_rows.kp
theorem Tx.b_check_rows {K : Fr'} {mg : Str → Option Value} (T : Tx K mg) : Binds K (fdOf K (He.ga K "check_rows")) ["signs", "states", "rows"] [] := FunD.bindsN (kws := d_check_rows.kws K) (T.f_check_rows) fun _ _ _ _ _ _ us hl => match us, hl with | [_, _, _], _ => rfl
theorem Tx.f_check_turns {K : Fr'} {mg : Str → Option Value} (T : Tx K mg) : FunD K "check_turns" "check_turns" (defArgs st_check_turns) (defBody st_check_turns) (defScope st_check_turns) (d_check_turns.dvs K) (d_check_turns.kws K) (He.ga K "check_turns") (fdOf K (He.ga K "check_turns")) := T.c.def_ 19 (d := d_check_turns)
theorem Tx.k_check_turns {K : Fr'} {mg : Str → Option Value} (T : Tx K mg) : PySem.W.keepIn K (.ref (He.ga K "check_turns")) = true := T.f_check_turns.kp
theorem Tx.b_check_turns {K : Fr'} {mg : Str → Option Value} (T : Tx K mg) : Binds K (fdOf K (He.ga K "check_turns")) ["states", "turns"] [] := FunD.bindsN (kws := d_check_turns.kws K) (T.f_check_turns) fun _ _ _ _ _ _ us hl => match us, hl with | [_, _], _ => rfl
theorem Tx.f_check_yes {K : Fr'} {mg : Str → Option Value} (T : Tx K mg) : FunD K "check_yes" "check_yes" (defArgs st_check_yes) (defBody st_check_yes) (defScope st_check_yes) (d_check_yes.dvs K) (d_check_yes.kws K) (He.ga K "check_yes") (fdOf K (He.ga K "check_yes")) := T.c.def_ 20 (d := d_check_yes)
theorem Tx.k_check_yes {K : Fr'} {mg : Str → Option Value} (T : Tx K mg) : PySem.W.keepIn K (.ref (He.ga K "check_yes")) = true := T.f_check_yes.kp
theorem Tx.b_check_yes {K : Fr'} {mg : Str → Option Value} (T : Tx K mg) : Binds K (fdOf K (He.ga K "check_yes")) ["states", "yes"] [] := FunD.bindsN (kws := d_check_yes.kws K) (T.f_check_yes) fun _ _ _ _ _ _ us hl => match us, hl with | [_, _], _ => rfl
theorem Tx.f_Loop_init {K : Fr'} {mg : Str → Option Value} (T : Tx K mg) : FunD K "__init__" "Loop.__init__" (defArgs st_Loop_init) (defBody st_Loop_init) (defScope st_Loop_init) (d_Loop_init.dvs K) (d_Loop_init.kws K) (He.ma K (He.ga K "Loop") "__init__") (fdOf K (He.ma K (He.ga K "Loop") "__init__")) := T.c.def_ 21 (d := d_Loop_init)
theorem Tx.k_Loop_init {K : Fr'} {mg : Str → Option Value} (T : Tx K mg) : PySem.W.keepIn K (.ref (He.ma K (He.ga K "Loop") "__init__")) = true := T.f_Loop_init.kp
theorem Tx.f_Loop_round_from {K : Fr'} {mg : Str → Option Value} (T : Tx K mg) : FunD K "round_from" "Loop.round_from" (defArgs st_Loop_round_from) (defBody st_Loop_round_from) (defScope st_Loop_round_from) (d_Loop_round_from.dvs K) (d_Loop_round_from.kws K) (He.ma K (He.ga K "Loop") "round_from") (fdOf K (He.ma K (He.ga K "Loop") "round_from")) := T.c.def_ 22 (d := d_Loop_round_from)
theorem Tx.k_Loop_round_from {K : Fr'} {mg : Str → Option Value} (T : Tx K mg) : PySem.W.keepIn K (.ref (He.ma K (He.ga K "Loop") "round_from")) = true := T.f_Loop_round_from.kp
theorem Tx.b_Loop_round_from {K : Fr'} {mg : Str → Option Value} (T : Tx K mg) : Binds K (fdOf K (He.ma K (He.ga K "Loop") "round_from")) ["self", "state", "text"] [] := FunD.bindsN (kws := d_Loop_round_from.kws K) (T.f_Loop_round_from) fun _ _ _ _ _ _ us hl => match us, hl with | [_, _, _], _ => rfl
theorem Tx.f_Loop_history {K : Fr'} {mg : Str → Option Value} (T : Tx K mg) : FunD K "history" "Loop.history" (defArgs st_Loop_history) (defBody st_Loop_history) (defScope st_Loop_history) (d_Loop_history.dvs K) (d_Loop_history.kws K) (He.ma K (He.ga K "Loop") "history") (fdOf K (He.ma K (He.ga K "Loop") "history")) := T.c.def_ 23 (d := d_Loop_history)
theorem Tx.k_Loop_history {K : Fr'} {mg : Str → Option Value} (T : Tx K mg) : PySem.W.keepIn K (.ref (He.ma K (He.ga K "Loop") "history")) = true := T.f_Loop_history.kp
theorem Tx.b_Loop_history {K : Fr'} {mg : Str → Option Value} (T : Tx K mg) : Binds K (fdOf K (He.ma K (He.ga K "Loop") "history")) ["self", "text"] [] := FunD.bindsN (kws := d_Loop_history.kws K) (T.f_Loop_history) fun _ _ _ _ _ _ us hl => match us, hl with | [_, _], _ => rfl
theorem Tx.f_Loop_call {K : Fr'} {mg : Str → Option Value} (T : Tx K mg) : FunD K "__call__" "Loop.__call__" (defArgs st_Loop_call) (defBody st_Loop_call) (defScope st_Loop_call) (d_Loop_call.dvs K) (d_Loop_call.kws K) (He.ma K (He.ga K "Loop") "__call__") (fdOf K (He.ma K (He.ga K "Loop") "__call__")) := T.c.def_ 24 (d := d_Loop_call)
theorem Tx.k_Loop_call {K : Fr'} {mg : Str → Option Value} (T : Tx K mg) : PySem.W.keepIn K (.ref (He.ma K (He.ga K "Loop") "__call__")) = true := T.f_Loop_call.kp
theorem Tx.b_Loop_call {K : Fr'} {mg : Str → Option Value} (T : Tx K mg) : Binds K (fdOf K (He.ma K (He.ga K "Loop") "__call__")) ["self", "text", "rounds"] [] := FunD.bindsN (kws := d_Loop_call.kws K) (T.f_Loop_call) fun _ _ _ _ _ _ us hl => match us, hl with | [_, _, _], _ => rfl
theorem Tx.f_Loop_state {K : Fr'} {mg : Str → Option Value} (T : Tx K mg) : FunD K "state" "Loop.state" (defArgs st_Loop_state) (defBody st_Loop_state) (defScope st_Loop_state) (d_Loop_state.dvs K) (d_Loop_state.kws K) (He.ma K (He.ga K "Loop") "state") (fdOf K (He.ma K (He.ga K "Loop") "state")) := T.c.def_ 25 (d := d_Loop_state)
theorem Tx.k_Loop_state {K : Fr'} {mg : Str → Option Value} (T : Tx K mg) : PySem.W.keepIn K (.ref (He.ma K (He.ga K "Loop") "state")) = true := T.f_Loop_state.kp
theorem Tx.b_Loop_state {K : Fr'} {mg : Str → Option Value} (T : Tx K mg) : Binds K (fdOf K (He.ma K (He.ga K "Loop") "state")) ["self", "text", "rounds"] [] := FunD.bindsN (kws := d_Loop_state.kws K) (T.f_Loop_state) fun _ _ _ _ _ _ us hl => match us, hl with | [_, _, _], _ => rfl
theorem Tx.f_Loop_total {K : Fr'} {mg : Str → Option Value} (T : Tx K mg) : FunD K "total" "Loop.total" (defArgs st_Loop_total) (defBody st_Loop_total) (defScope st_Loop_total) (d_Loop_total.dvs K) (d_Loop_total.kws K) (He.ma K (He.ga K "Loop") "total") (fdOf K (He.ma K (He.ga K "Loop") "total")) := T.c.def_ 26 (d := d_Loop_total)
theorem Tx.k_Loop_total {K : Fr'} {mg : Str → Option Value} (T : Tx K mg) : PySem.W.keepIn K (.ref (He.ma K (He.ga K "Loop") "total")) = true := T.f_Loop_total.kp
theorem Tx.b_Loop_total {K : Fr'} {mg : Str → Option Value} (T : Tx K mg) : Binds K (fdOf K (He.ma K (He.ga K "Loop") "total")) ["self", "text", "rounds"] [] := FunD.bindsN (kws := d_Loop_total.kws K) (T.f_Loop_total) fun _ _ _ _ _ _ us hl => match us, hl with | [_, _, _], _ => rfl
theorem Tx.f_Loop_pace {K : Fr'} {mg : Str → Option Value} (T : Tx K mg) : FunD K "pace" "Loop.pace" (defArgs st_Loop_pace) (defBody st_Loop_pace) (defScope st_Loop_pace) (d_Loop_pace.dvs K) (d_Loop_pace.kws K) (He.ma K (He.ga K "Loop") "pace") (fdOf K (He.ma K (He.ga K "Loop") "pace")) := T.c.def_ 27 (d := d_Loop_pace)
theorem Tx.k_Loop_pace {K : Fr'} {mg : Str → Option Value} (T : Tx K mg) : PySem.W.keepIn K (.ref (He.ma K (He.ga K "Loop") "pace")) = true := T.f_Loop_pace.kp
theorem Tx.b_Loop_pace {K : Fr'} {mg : Str → Option Value} (T : Tx K mg) : Binds K (fdOf K (He.ma K (He.ga K "Loop") "pace")) ["self", "text"] [] := FunD.bindsN (kws := d_Loop_pace.kws K) (T.f_Loop_pace) fun _ _ _ _ _ _ us hl => match us, hl with | [_, _], _ => rfl
theorem Tx.f_lawP_purse {K : Fr'} {mg : Str → Option Value} (T : Tx K mg) : FunD K "_law_purse" "_law_purse" (defArgs st_lawP_purse) (defBody st_lawP_purse) (defScope st_lawP_purse) (d_lawP_purse.dvs K) (d_lawP_purse.kws K) (He.ga K "_law_purse") (fdOf K (He.ga K "_law_purse")) := T.c.def_ 28 (d := d_lawP_purse)
theorem Tx.k_lawP_purse {K : Fr'} {mg : Str → Option Value} (T : Tx K mg) : PySem.W.keepIn K (.ref (He.ga K "_law_purse")) = true := T.f_lawP_purse.kp
theorem Tx.b_lawP_purse {K : Fr'} {mg : Str → Option Value} (T : Tx K mg) : Binds K (fdOf K (He.ga K "_law_purse")) ["_law_script", "_law_spot"] [] := FunD.bindsN (kws := d_lawP_purse.kws K) (T.f_lawP_purse) fun _ _ _ _ _ _ us hl => match us, hl with | [_, _], _ => rfl
theorem Tx.f_lawP_pick {K : Fr'} {mg : Str → Option Value} (T : Tx K mg) : FunD K "_law_pick" "_law_pick" (defArgs st_lawP_pick) (defBody st_lawP_pick) (defScope st_lawP_pick) (d_lawP_pick.dvs K) (d_lawP_pick.kws K) (He.ga K "_law_pick") (fdOf K (He.ga K "_law_pick")) := T.c.def_ 29 (d := d_lawP_pick)
theorem Tx.k_lawP_pick {K : Fr'} {mg : Str → Option Value} (T : Tx K mg) : PySem.W.keepIn K (.ref (He.ga K "_law_pick")) = true := T.f_lawP_pick.kp
theorem Tx.b_lawP_pick {K : Fr'} {mg : Str → Option Value} (T : Tx K mg) : Binds K (fdOf K (He.ga K "_law_pick")) ["_law_purse_here", "_law_length"] [] := FunD.bindsN (kws := d_lawP_pick.kws K) (T.f_lawP_pick) fun _ _ _ _ _ _ us hl => match us, hl with | [_, _], _ => rfl
theorem Tx.f_lawP_names {K : Fr'} {mg : Str → Option Value} (T : Tx K mg) : FunD K "_law_names" "_law_names" (defArgs st_lawP_names) (defBody st_lawP_names) (defScope st_lawP_names) (d_lawP_names.dvs K) (d_lawP_names.kws K) (He.ga K "_law_names") (fdOf K (He.ga K "_law_names")) := T.c.def_ 30 (d := d_lawP_names)
theorem Tx.k_lawP_names {K : Fr'} {mg : Str → Option Value} (T : Tx K mg) : PySem.W.keepIn K (.ref (He.ga K "_law_names")) = true := T.f_lawP_names.kp
theorem Tx.b_lawP_names {K : Fr'} {mg : Str → Option Value} (T : Tx K mg) : Binds K (fdOf K (He.ga K "_law_names")) ["_law_purse_here", "_law_length"] [] := FunD.bindsN (kws := d_lawP_names.kws K) (T.f_lawP_names) fun _ _ _ _ _ _ us hl => match us, hl with | [_, _], _ => rfl
theorem Tx.f_lawP_signs {K : Fr'} {mg : Str → Option Value} (T : Tx K mg) : FunD K "_law_signs" "_law_signs" (defArgs st_lawP_signs) (defBody st_lawP_signs) (defScope st_lawP_signs) (d_lawP_signs.dvs K) (d_lawP_signs.kws K) (He.ga K "_law_signs") (fdOf K (He.ga K "_law_signs")) := T.c.def_ 31 (d := d_lawP_signs)
theorem Tx.k_lawP_signs {K : Fr'} {mg : Str → Option Value} (T : Tx K mg) : PySem.W.keepIn K (.ref (He.ga K "_law_signs")) = true := T.f_lawP_signs.kp
theorem Tx.b_lawP_signs {K : Fr'} {mg : Str → Option Value} (T : Tx K mg) : Binds K (fdOf K (He.ga K "_law_signs")) ["_law_purse_here", "_law_length"] [] := FunD.bindsN (kws := d_lawP_signs.kws K) (T.f_lawP_signs) fun _ _ _ _ _ _ us hl => match us, hl with | [_, _], _ => rfl
theorem Tx.f_lawP_amount {K : Fr'} {mg : Str → Option Value} (T : Tx K mg) : FunD K "_law_amount" "_law_amount" (defArgs st_lawP_amount) (defBody st_lawP_amount) (defScope st_lawP_amount) (d_lawP_amount.dvs K) (d_lawP_amount.kws K) (He.ga K "_law_amount") (fdOf K (He.ga K "_law_amount")) := T.c.def_ 32 (d := d_lawP_amount)
theorem Tx.k_lawP_amount {K : Fr'} {mg : Str → Option Value} (T : Tx K mg) : PySem.W.keepIn K (.ref (He.ga K "_law_amount")) = true := T.f_lawP_amount.kp
theorem Tx.b_lawP_amount {K : Fr'} {mg : Str → Option Value} (T : Tx K mg) : Binds K (fdOf K (He.ga K "_law_amount")) ["_law_purse_here", "_law_great"] [] := FunD.bindsN (kws := d_lawP_amount.kws K) (T.f_lawP_amount) fun _ _ _ _ _ _ us hl => match us, hl with | [_, _], _ => rfl
theorem Tx.f_lawP_model {K : Fr'} {mg : Str → Option Value} (T : Tx K mg) : FunD K "_law_model" "_law_model" (defArgs st_lawP_model) (defBody st_lawP_model) (defScope st_lawP_model) (d_lawP_model.dvs K) (d_lawP_model.kws K) (He.ga K "_law_model") (fdOf K (He.ga K "_law_model")) := T.c.def_ 33 (d := d_lawP_model)
theorem Tx.k_lawP_model {K : Fr'} {mg : Str → Option Value} (T : Tx K mg) : PySem.W.keepIn K (.ref (He.ga K "_law_model")) = true := T.f_lawP_model.kp
theorem Tx.b_lawP_model {K : Fr'} {mg : Str → Option Value} (T : Tx K mg) : Binds K (fdOf K (He.ga K "_law_model")) ["_law_purse_here", "_law_size", "_law_signs_here", "_law_great"] [] := FunD.bindsN (kws := d_lawP_model.kws K) (T.f_lawP_model) fun _ _ _ _ _ _ us hl => match us, hl with | [_, _, _, _], _ => rfl
theorem Tx.f_lawP_loop {K : Fr'} {mg : Str → Option Value} (T : Tx K mg) : FunD K "_law_loop" "_law_loop" (defArgs st_lawP_loop) (defBody st_lawP_loop) (defScope st_lawP_loop) (d_lawP_loop.dvs K) (d_lawP_loop.kws K) (He.ga K "_law_loop") (fdOf K (He.ga K "_law_loop")) := T.c.def_ 34 (d := d_lawP_loop)
theorem Tx.k_lawP_loop {K : Fr'} {mg : Str → Option Value} (T : Tx K mg) : PySem.W.keepIn K (.ref (He.ga K "_law_loop")) = true := T.f_lawP_loop.kp
theorem Tx.b_lawP_loop {K : Fr'} {mg : Str → Option Value} (T : Tx K mg) : Binds K (fdOf K (He.ga K "_law_loop")) ["_law_model_here"] [] := FunD.bindsN (kws := d_lawP_loop.kws K) (T.f_lawP_loop) fun _ _ _ _ _ _ us hl => match us, hl with | [_], _ => rfl
theorem Tx.f_law_right {K : Fr'} {mg : Str → Option Value} (T : Tx K mg) : FunD K "_law_right" "_law_right" (defArgs st_law_right) (defBody st_law_right) (defScope st_law_right) (d_law_right.dvs K) (d_law_right.kws K) (He.ga K "_law_right") (fdOf K (He.ga K "_law_right")) := T.c.def_ 35 (d := d_law_right)
theorem Tx.k_law_right {K : Fr'} {mg : Str → Option Value} (T : Tx K mg) : PySem.W.keepIn K (.ref (He.ga K "_law_right")) = true := T.f_law_right.kp
theorem Tx.b_law_right {K : Fr'} {mg : Str → Option Value} (T : Tx K mg) : Binds K (fdOf K (He.ga K "_law_right")) ["_law_purse_here"] [] := FunD.bindsN (kws := d_law_right.kws K) (T.f_law_right) fun _ _ _ _ _ _ us hl => match us, hl with | [_], _ => rfl
theorem Tx.f_law {K : Fr'} {mg : Str → Option Value} (T : Tx K mg) : FunD K "law" "law" (defArgs st_law) (defBody st_law) (defScope st_law) (d_law.dvs K) (d_law.kws K) (He.ga K "law") (fdOf K (He.ga K "law")) := T.c.def_ 36 (d := d_law)
theorem Tx.k_law {K : Fr'} {mg : Str → Option Value} (T : Tx K mg) : PySem.W.keepIn K (.ref (He.ga K "law")) = true := T.f_law.kp
theorem Tx.b_law {K : Fr'} {mg : Str → Option Value} (T : Tx K mg) : Binds K (fdOf K (He.ga K "law")) ["_law_script"] [] := FunD.bindsN (kws := d_law.kws K) (T.f_law) fun _ _ _ _ _ _ us hl => match us, hl with | [_], _ => rfl
theorem Tx.qLoop_init_5_yes {K : Fr'} {mg : Str → Option Value} (T : Tx K mg) : ∃ g, KBn K (fdOf K (He.ma K (He.ga K "Loop") "__init__")) ["self", "signs", "states", "rows", "turns", "yes"] 5 (["yes"] : List Str) g (fun vs zs => selG [(0, 0), (0, 1), (0, 2), (0, 3), (0, 4), (2, 0)] vs [(.ref (He.dflAt ("Loop", some "__init__") 0 K))] [] zs) := by
  have h := kbnD (ps := ["self", "signs", "states", "rows", "turns", "yes"]) (T.f_Loop_init) 5 (["yes"] : List Str) [(0, 0), (0, 1), (0, 2), (0, 3), (0, 4), (2, 0)] (by simp [d_Loop_init, He5.DefA.dvs]) (fun _ _ _ _ _ _ _ us its ws h1 h2 h3 => match us, its, ws, h1, h2, h3 with | [_, _, _, _, _], [_], [_], _, _, _ => ⟨_, rfl, rfl⟩)
  have e : d_Loop_init.dvs K = [(.ref (He.dflAt ("Loop", some "__init__") 0 K))] := by
    simp only [d_Loop_init, He5.DefA.dvs, List.map, He.Dv.v, lit_abc]
  rw [e] at h
  exact h
section
variable {P : Program} {w : World} {K : Fr'} {mg : Str → Option Value} {base : Heap}
theorem sc_is_integer : FnScope ["value"] ["value"] (defScope st_is_integer) := ⟨rfl, rfl, rfl, by decide +kernel, rfl, by decide +kernel, by decide +kernel⟩
theorem ok_is_integer (T : Tx K mg) : FnOk P w K mg base CX0 1 (He.ga K "is_integer") (fdOf K (He.ga K "is_integer")) ["value"] (sp_is_integer K) := by
  have sc := sc_is_integer
  refine T.f_is_integer.ok sc (fun vs H Q E h => ?_) (fun cdv A outer s H vs Q E hr h => ⟨t_is_integer K, PSs.nox ?_, pure_is_integer h⟩)
  · obtain ⟨_, _, rfl, _⟩ := h
    rfl
  · exact (pss_one (ps_ret (pe_and (pe_callB call_isi (by rfl) T.n_isinstance (by decide +kernel) (pa_cons (pv 0) (pa_cons (pe_bltn (by rfl) T.n_int (by decide +kernel) rfl) pa_nil))) (pe_one (pe_not (pe_callB call_isi (by rfl) T.n_isinstance (by decide +kernel) (pa_cons (pv 0) (pa_cons (pe_bltn (by rfl) T.n_bool (by decide +kernel) rfl) pa_nil))))))))
theorem sc_is_within : FnScope ["value", "least", "most"] ["value", "least", "most"] (defScope st_is_within) := ⟨rfl, rfl, rfl, by decide +kernel, rfl, by decide +kernel, by decide +kernel⟩
theorem ok_is_within (T : Tx K mg) : FnOk P w K mg base CX0 2 (He.ga K "is_within") (fdOf K (He.ga K "is_within")) ["value", "least", "most"] (sp_is_within K) := by
  have sc := sc_is_within
  refine T.f_is_within.ok sc (fun vs H Q E h => ?_) (fun cdv A outer s H vs Q E hr h => ⟨t_is_within K, PSs.nox ?_, pure_is_within h⟩)
  · obtain ⟨_, _, _, rfl, _⟩ := h
    rfl
  · exact (pss_one (ps_ret (pe_and (pe_call (ok_is_integer T) (hr.mono (by decide)) (by rfl) T.g_is_integer T.k_is_integer T.b_is_integer .nil pass0 (pa_cons (pv 0) pa_nil)) (pe_one (pe_chain op_le op_le (pv 1) (pv 0) (pv 2))))))
theorem sc_is_name : FnScope ["value", "mark"] ["value"] (defScope st_is_name) := ⟨rfl, rfl, rfl, by decide +kernel, rfl, by decide +kernel, by decide +kernel⟩
theorem ok_is_name (T : Tx K mg) : FnOk P w K mg base CX0 1 (He.ga K "is_name") (fdOf K (He.ga K "is_name")) ["value"] (sp_is_name K) := by
  have sc := sc_is_name
  refine T.f_is_name.ok sc (fun vs H Q E h => ?_) (fun cdv A outer s H vs Q E hr h => ⟨t_is_name K, PSs.nox ?_, pure_is_name h⟩)
  · obtain ⟨_, rfl, _⟩ := h
    rfl
  · exact (pss_cons (ps_if (PW.pt (pw_or (pt_not (pt_val (pe_callB call_isi (by rfl) T.n_isinstance (by decide +kernel) (pa_cons (pv 0) (pa_cons (pe_bltn (by rfl) T.n_str (by decide +kernel) rfl) pa_nil))))) (pw_or1 (pt_not (pt_chain op_le op_le pe_int (pe_callB call_len (by rfl) T.n_len (by decide +kernel) (pa_cons (pv 0) pa_nil)) (pe_globI (by rfl) T.g_LONGEST_NAME)))))) (pss_one (ps_ret pe_bl)) pss_nil)
  (pss_one (ps_ret (pe_and (pe_cmpR op_in_sign (pe_ix ix_str (pv 0) pe_int (fun _ _ => rfl)) (pe_globS (by rfl) T.g_LETTERS) (by rfl)) (pe_one (pe_callB (cr_all rfl) (by rfl) T.n_all (by decide +kernel) (pa_cons (pe_lc (own := [("mark", 1)]) (g := gName 1) (by rfl) sc.nd (pi_str (pv 0)) (blkOk_by (own := [("mark", 1)]) (by kernel_rfl)) (fun _ _ _ _ _ => pg_name (i := 1) sc.nd rfl (Or.inl rfl)) (fun _ _ _ _ _ => pts_nil) (fun _ _ _ _ _ => (pe_cmpR op_in_sign (pv 1) (pe_globS (by rfl) T.g_MARKS) (by rfl)))) pa_nil)))))))
theorem sc_is_word : FnScope ["value", "signs", "sign"] ["value", "signs"] (defScope st_is_word) := ⟨rfl, rfl, rfl, by decide +kernel, rfl, by decide +kernel, by decide +kernel⟩
theorem ok_is_word (T : Tx K mg) : FnOk P w K mg base CX0 1 (He.ga K "is_word") (fdOf K (He.ga K "is_word")) ["value", "signs"] (sp_is_word K) := by
  have sc := sc_is_word
  refine T.f_is_word.ok sc (fun vs H Q E h => ?_) (fun cdv A outer s H vs Q E hr h => ⟨t_is_word K, PSs.nox ?_, pure_is_word h⟩)
  · obtain ⟨_, _, rfl, _⟩ := h
    rfl
  · exact (pss_cons (ps_if (PW.pt (pw_or (pt_not (pt_val (pe_callB call_isi (by rfl) T.n_isinstance (by decide +kernel) (pa_cons (pv 0) (pa_cons (pe_bltn (by rfl) T.n_str (by decide +kernel) rfl) pa_nil))))) (pw_or1 (pt_not (pt_chain op_le op_le pe_int (pe_callB call_len (by rfl) T.n_len (by decide +kernel) (pa_cons (pv 0) pa_nil)) (pe_globI (by rfl) T.g_MOST_WORD)))))) (pss_one (ps_ret pe_bl)) pss_nil)
  (pss_one (ps_ret (pe_callB (cr_all rfl) (by rfl) T.n_all (by decide +kernel) (pa_cons (pe_lc (own := [("sign", 2)]) (g := gName 2) (by rfl) sc.nd (pi_str (pv 0)) (blkOk_by (own := [("sign", 2)]) (by kernel_rfl)) (fun _ _ _ _ _ => pg_name (i := 2) sc.nd rfl (Or.inl rfl)) (fun _ _ _ _ _ => pts_nil) (fun _ _ _ _ _ => (pe_cmpR op_in_sign (pv 2) (pv 1) (by rfl)))) pa_nil)))))
theorem sc_is_row : FnScope ["value", "length"] ["value", "length"] (defScope st_is_row) := ⟨rfl, rfl, rfl, by decide +kernel, rfl, by decide +kernel, by decide +kernel⟩
theorem ok_is_row (T : Tx K mg) : FnOk P w K mg base CX0 1 (He.ga K "is_row") (fdOf K (He.ga K "is_row")) ["value", "length"] (sp_is_row K) := by
  have sc := sc_is_row
  refine T.f_is_row.ok sc (fun vs H Q E h => ?_) (fun cdv A outer s H vs Q E hr h => ⟨t_is_row K, PSs.nox ?_, pure_is_row h⟩)
  · obtain ⟨_, _, rfl, _⟩ := h
    rfl
  · exact (pss_one (ps_ret (pe_and (pe_callB call_isi (by rfl) T.n_isinstance (by decide +kernel) (pa_cons (pv 0) (pa_cons (pe_bltn (by rfl) T.n_tuple (by decide +kernel) rfl) pa_nil))) (pe_one (pe_cmpR op_eq (pe_callB call_len (by rfl) T.n_len (by decide +kernel) (pa_cons (pv 0) pa_nil)) (pv 1) (nomark _))))))
theorem sc_least_turning : FnScope ["text", "place"] ["text"] (defScope st_least_turning) := ⟨rfl, rfl, rfl, by decide +kernel, rfl, by decide +kernel, by decide +kernel⟩
theorem ok_least_turning (T : Tx K mg) : FnOk P w K mg base CX0 1 (He.ga K "least_turning") (fdOf K (He.ga K "least_turning")) ["text"] (sp_least_turning K) := by
  have sc := sc_least_turning
  refine T.f_least_turning.ok sc (fun vs H Q E h => ?_) (fun cdv A outer s H vs Q E hr h => ⟨t_least_turning K, PSs.nox ?_, pure_least_turning h⟩)
  · obtain ⟨_, rfl, _⟩ := h
    rfl
  · exact (pss_one (ps_ret (pe_callB (cr_minS rfl hr.units) (by rfl) T.n_min (by decide +kernel) (pa_cons (pe_lc (own := [("place", 1)]) (g := gName 1) (by rfl) sc.nd (pi_range1 (by rfl) T.n_range (pa_cons (pe_callB call_len (by rfl) T.n_len (by decide +kernel) (pa_cons (pv 0) pa_nil)) pa_nil)) (blkOk_by (own := [("place", 1)]) (by kernel_rfl)) (fun _ _ _ _ _ => pg_name (i := 1) sc.nd rfl (Or.inl rfl)) (fun _ _ _ _ _ => pts_nil) (fun _ _ _ _ _ => (pe_op op_addS (pe_slice sl_str (pv 0) (po_some (pv 1)) po_none) (pe_slice sl_str (pv 0) po_none (po_some (pv 1)))))) pa_nil))))
theorem sc_least_period : FnScope ["text", "period"] ["text"] (defScope st_least_period) := ⟨rfl, rfl, rfl, by decide +kernel, rfl, by decide +kernel, by decide +kernel⟩
theorem ok_least_period (T : Tx K mg) : FnOk P w K mg base CX0 1 (He.ga K "least_period") (fdOf K (He.ga K "least_period")) ["text"] (sp_least_period K) := by
  have sc := sc_least_period
  refine T.f_least_period.ok sc (fun vs H Q E h => ?_) (fun cdv A outer s H vs Q E hr h => ⟨t_least_period K, PSs.nox ?_, pure_least_period h⟩)
  · obtain ⟨_, rfl, _⟩ := h
    rfl
  · exact (pss_cons (ps_for PassesOwn.never rfl (pi_range2 (by rfl) T.n_range (pa_cons pe_int (pa_cons (pe_callB call_len (by rfl) T.n_len (by decide +kernel) (pa_cons (pv 0) pa_nil)) pa_nil))) (pg_name (i := 1) sc.nd rfl (by first | exact Or.inl rfl | exact Or.inr rfl)) (pss_one (ps_if (pt_cmpR op_eq (pe_op op_addS (pe_slice sl_str (pv 0) (po_some (pv 1)) po_none) (pe_slice sl_str (pv 0) po_none (po_some (pv 1)))) (pv 0) (nomark _)) (pss_one (ps_ret (pv 1))) pss_nil)))
  (pss_one (ps_ret (pe_callB call_len (by rfl) T.n_len (by decide +kernel) (pa_cons (pv 0) pa_nil)))))
theorem sc_Ring_init : FnScope ["self", "text"] ["self", "text"] (defScope st_Ring_init) := ⟨rfl, rfl, rfl, by decide +kernel, rfl, by decide +kernel, by decide +kernel⟩
theorem ok_Ring_init (T : Tx K mg) : FnOk P w K mg base CX0 2 (He.ma K (He.ga K "Ring") "__init__") (fdOf K (He.ma K (He.ga K "Ring") "__init__")) ["self", "text"] (sp_Ring_init K) := by
  have sc := sc_Ring_init
  obtain ⟨ds_is_word, dv_is_word, db_is_word⟩ := T.bd1_is_word
  refine T.f_Ring_init.ok sc (fun vs H Q E h => ?_) (fun cdv A outer s H vs Q E hr h => ⟨t_Ring_init K, PSs.nox ?_, pure_Ring_init T.ringK h⟩)
  · obtain ⟨_, _, _, rfl, _⟩ := h
    rfl
  · exact (pss_cons (ps_if (pt_not (pt_val (pe_call (ok_is_word T) (hr.mono (by decide)) (by rfl) T.g_is_word T.k_is_word db_is_word dv_is_word pass0 (pa_cons (pv 1) pa_nil)))) (pss_one ps_never) pss_nil)
  (pss_one (ps_fld (pv 0) (pe_call (ok_least_turning T) (hr.mono (by decide)) (by rfl) T.g_least_turning T.k_least_turning T.b_least_turning .nil pass0 (pa_cons (pv 1) pa_nil)) rfl)))
theorem sc_Ring_stretch : FnScope ["self", "place", "number", "begin", "times"] ["self", "place", "number"] (defScope st_Ring_stretch) := ⟨rfl, rfl, rfl, by decide +kernel, rfl, by decide +kernel, by decide +kernel⟩
theorem ok_Ring_stretch (T : Tx K mg) : FnOk P w K mg base CX0 1 (He.ma K (He.ga K "Ring") "stretch") (fdOf K (He.ma K (He.ga K "Ring") "stretch")) ["self", "place", "number"] (sp_Ring_stretch K) := by
  have sc := sc_Ring_stretch
  refine T.f_Ring_stretch.ok sc (fun vs H Q E h => ?_) (fun cdv A outer s H vs Q E hr h => ⟨t_Ring_stretch K, PSs.nox ?_, pure_Ring_stretch T.ringK h⟩)
  · obtain ⟨_, _, _, rfl, _⟩ := h
    rfl
  · exact (pss_cons (ps_set (i := 3) sc.nd rfl (by first | exact Or.inl rfl | exact Or.inr rfl) (pe_op op_mod (pv 1) (pe_callB call_len (by rfl) T.n_len (by decide +kernel) (pa_cons (pe_fld (pv 0) rfl) pa_nil))))
  (pss_cons (ps_set (i := 4) sc.nd rfl (by first | exact Or.inl rfl | exact Or.inr rfl) (pe_op op_add (pe_op op_fdiv (pe_op op_add (pv 3) (pv 2)) (pe_callB call_len (by rfl) T.n_len (by decide +kernel) (pa_cons (pe_fld (pv 0) rfl) pa_nil))) pe_int))
  (pss_one (ps_ret (pe_slice sl_str (pe_op op_mulS (pe_fld (pv 0) rfl) (pv 4)) (po_some (pv 3)) (po_some (pe_op op_add (pv 3) (pv 2))))))))
theorem sc_Ring_turned : FnScope ["self", "i"] ["self", "i"] (defScope st_Ring_turned) := ⟨rfl, rfl, rfl, by decide +kernel, rfl, by decide +kernel, by decide +kernel⟩
theorem ok_Ring_turned (T : Tx K mg) : FnOk P w K mg base CX0 2 (He.ma K (He.ga K "Ring") "turned") (fdOf K (He.ma K (He.ga K "Ring") "turned")) ["self", "i"] (sp_Ring_turned K) := by
  have sc := sc_Ring_turned
  refine T.f_Ring_turned.ok sc (fun vs H Q E h => ?_) (fun cdv A outer s H vs Q E hr h => ⟨t_Ring_turned K, PSs.nox ?_, pure_Ring_turned T.ringK h⟩)
  · obtain ⟨_, _, rfl, _⟩ := h
    rfl
  · exact (pss_cons (ps_if (pt_not (pt_val (pe_call (ok_is_integer T) (hr.mono (by decide)) (by rfl) T.g_is_integer T.k_is_integer T.b_is_integer .nil pass0 (pa_cons (pv 1) pa_nil)))) (pss_one ps_never) pss_nil)
  (pss_one (ps_ret (pe_meth (pv 0) T.c_Ring T.m_Ring_stretch (ok_Ring_stretch T) (hr.mono (by decide)) T.b_Ring_stretch .nil pass0 (pa_cons (pv 1) (pa_cons (pe_callB call_len (by rfl) T.n_len (by decide +kernel) (pa_cons (pe_fld (pv 0) rfl) pa_nil)) pa_nil))))))
theorem sc_Ring_period : FnScope ["self"] ["self"] (defScope st_Ring_period) := ⟨rfl, rfl, rfl, by decide +kernel, rfl, by decide +kernel, by decide +kernel⟩
theorem ok_Ring_period (T : Tx K mg) : FnOk P w K mg base CX0 2 (He5.wf K (He.ga K "Ring") "property" "period") (fdOf K (He5.wf K (He.ga K "Ring") "property" "period")) ["self"] (sp_Ring_period K) := by
  have sc := sc_Ring_period
  refine T.f_Ring_period.ok sc (fun vs H Q E h => ?_) (fun cdv A outer s H vs Q E hr h => ⟨t_Ring_period K, PSs.nox ?_, pure_Ring_period T.ringK h⟩)
  · obtain ⟨_, _, rfl, _⟩ := h
    rfl
  · exact (pss_one (ps_ret (pe_call (ok_least_period T) (hr.mono (by decide)) (by rfl) T.g_least_period T.k_least_period T.b_least_period .nil pass0 (pa_cons (pe_fld (pv 0) rfl) pa_nil))))
theorem sc_Ring_mul : FnScope ["self", "times"] ["self", "times"] (defScope st_Ring_mul) := ⟨rfl, rfl, rfl, by decide +kernel, rfl, by decide +kernel, by decide +kernel⟩
theorem ok_Ring_mul (T : Tx K mg) : FnOk P w K mg base CX0 4 (He.ma K (He.ga K "Ring") "__mul__") (fdOf K (He.ma K (He.ga K "Ring") "__mul__")) ["self", "times"] (sp_Ring_mul K) := by
  have sc := sc_Ring_mul
  refine T.f_Ring_mul.ok sc (fun vs H Q E h => ?_) (fun cdv A outer s H vs Q E hr h => ⟨t_Ring_mul K, PSs.nox ?_, pure_Ring_mul T.ringK h⟩)
  · obtain ⟨_, _, _, rfl, _⟩ := h
    rfl
  · exact (pss_cons (ps_if (PW.pt (pw_or (pt_not (pt_val (pe_call (ok_is_integer T) (hr.mono (by decide)) (by rfl) T.g_is_integer T.k_is_integer T.b_is_integer .nil pass0 (pa_cons (pv 1) pa_nil)))) (pw_or1 (pt_cmpR op_lt (pv 1) pe_int (nomark _))))) (pss_one ps_never) pss_nil)
  (pss_cons (ps_if (pt_cmpR op_gt (pe_op op_mul (pe_callB call_len (by rfl) T.n_len (by decide +kernel) (pa_cons (pe_fld (pv 0) rfl) pa_nil)) (pv 1)) (pe_globI (by rfl) T.g_MOST_WORD) (nomark _)) (pss_one ps_never) pss_nil)
  (pss_one (ps_ret (pe_make T.mk_Ring (ok_Ring_init T) (hr.mono (by decide)) (by rfl) T.g_Ring T.b_Ring_init .nil pass0 (pa_cons (pe_op op_mulS (pe_fld (pv 0) rfl) (pv 1)) pa_nil))))))
theorem sc_check_signs : FnScope ["signs"] ["signs"] (defScope st_check_signs) := ⟨rfl, rfl, rfl, by decide +kernel, rfl, by decide +kernel, by decide +kernel⟩
theorem ok_check_signs (T : Tx K mg) : FnOk P w K mg base CX0 2 (He.ga K "check_signs") (fdOf K (He.ga K "check_signs")) ["signs"] (sp_check_signs K) := by
  have sc := sc_check_signs
  obtain ⟨ds_is_word, dv_is_word, db_is_word⟩ := T.bd1_is_word
  refine T.f_check_signs.ok sc (fun vs H Q E h => ?_) (fun cdv A outer s H vs Q E hr h => ⟨t_check_signs K, PSs.nox ?_, pure_check_signs h⟩)
  · obtain ⟨_, rfl, _⟩ := h
    rfl
  · exact (pss_one (ps_if (PW.pt (pw_or (pt_not (pt_val (pe_call (ok_is_word T) (hr.mono (by decide)) (by rfl) T.g_is_word T.k_is_word db_is_word dv_is_word pass0 (pa_cons (pv 0) pa_nil)))) (pw_or (pt_cmpR op_gt (pe_callB call_len (by rfl) T.n_len (by decide +kernel) (pa_cons (pv 0) pa_nil)) (pe_globI (by rfl) T.g_MOST_SIGNS) (nomark _)) (pw_or1 (pt_cmpR op_lt (pe_lenSetS rfl (by rfl) T.n_len (by rfl) T.n_set (pv 0)) (pe_callB call_len (by rfl) T.n_len (by decide +kernel) (pa_cons (pv 0) pa_nil)) (nomark _)))))) (pss_one ps_never) pss_nil))
theorem sc_lowest_terms : FnScope ["number", "divisor", "high", "low"] ["number", "divisor"] (defScope st_lowest_terms) := ⟨rfl, rfl, rfl, by decide +kernel, rfl, by decide +kernel, by decide +kernel⟩
theorem ok_lowest_terms (T : Tx K mg) : FnOk P w K mg base CX0 1 (He.ga K "lowest_terms") (fdOf K (He.ga K "lowest_terms")) ["number", "divisor"] (sp_lowest_terms K) := by
  have sc := sc_lowest_terms
  refine T.f_lowest_terms.ok sc (fun vs H Q E h => ?_) (fun cdv A outer s H vs Q E hr h => ⟨t_lowest_terms K, PSs.nox ?_, pure_lowest_terms h⟩)
  · obtain ⟨_, _, rfl, _⟩ := h
    rfl
  · exact (pss_cons (ps_par (by rfl) sc.nd rfl rfl (by decide) rfl rfl (pa_cons (pe_callB call_abs (by rfl) T.n_abs (by decide +kernel) (pa_cons (pv 0) pa_nil)) (pa_cons (pv 1) pa_nil)) (by rfl))
  (pss_cons (ps_while PassesOwn.never (pt_cmpR op_gt (pv 3) pe_int (nomark _)) (pss_one (ps_par (by rfl) sc.nd rfl rfl (by decide) rfl rfl (pa_cons (pv 3) (pa_cons (pe_op op_mod (pv 2) (pv 3)) pa_nil)) (by rfl))))
  (pss_one (ps_ret (pe_tup (pa_cons (pe_op op_fdiv (pv 0) (pv 2)) (pa_cons (pe_op op_fdiv (pv 1) (pv 2)) pa_nil)))))))
theorem sc_place_of : FnScope ["at", "size", "begin"] ["at", "size", "begin"] (defScope st_place_of) := ⟨rfl, rfl, rfl, by decide +kernel, rfl, by decide +kernel, by decide +kernel⟩
theorem ok_place_of (T : Tx K mg) : FnOk P w K mg base CX0 1 (He.ga K "place_of") (fdOf K (He.ga K "place_of")) ["at", "size", "begin"] (sp_place_of K) := by
  have sc := sc_place_of
  refine T.f_place_of.ok sc (fun vs H Q E h => ?_) (fun cdv A outer s H vs Q E hr h => ⟨t_place_of K, PSs.nox ?_, pure_place_of h⟩)
  · obtain ⟨_, _, _, rfl, _⟩ := h
    rfl
  · exact (pss_one (ps_ret (pe_ifExp (pt_cmpR op_lt (pv 0) (pv 1) (nomark _)) (pv 0) (pe_op op_add (pv 2) (pe_op op_mod (pe_op op_sub (pv 0) (pv 2)) (pe_op op_sub (pv 1) (pv 2)))))))
theorem sc_is_step : FnScope ["row", "signs", "states"] ["row", "signs", "states"] (defScope st_is_step) := ⟨rfl, rfl, rfl, by decide +kernel, rfl, by decide +kernel, by decide +kernel⟩
theorem ok_is_step (T : Tx K mg) : FnOk P w K mg base CX0 2 (He.ga K "is_step") (fdOf K (He.ga K "is_step")) ["row", "signs", "states"] (sp_is_step K) := by
  have sc := sc_is_step
  refine T.f_is_step.ok sc (fun vs H Q E h => ?_) (fun cdv A outer s H vs Q E hr h => ⟨t_is_step K, PSs.nox ?_, pure_is_step h⟩)
  · obtain ⟨_, _, _, rfl, _⟩ := h
    rfl
  · exact (pss_cons (ps_if (PW.pt (pw_or (pt_not (pt_val (pe_call (ok_is_row T) (hr.mono (by decide)) (by rfl) T.g_is_row T.k_is_row T.b_is_row .nil pass0 (pa_cons (pv 0) (pa_cons pe_int pa_nil))))) (pw_or (pt_not (pt_val (pe_call (ok_is_word T) (hr.mono (by decide)) (by rfl) T.g_is_word T.k_is_word T.bf_is_word .nil pass0 (pa_cons (pe_ix ix_tup (pv 0) pe_int (fun _ _ => rfl)) (pa_cons (pv 1) pa_nil))))) (pw_or1 (pt_cmpR op_ne (pe_callB call_len (by rfl) T.n_len (by decide +kernel) (pa_cons (pe_ix ix_tup (pv 0) pe_int (fun _ _ => rfl)) pa_nil)) pe_int (nomark _)))))) (pss_one (ps_ret pe_bl)) pss_nil)
  (pss_one (ps_ret (pe_and (pe_cmpR op_in_seq (pe_ix ix_tup (pv 0) pe_int (fun _ _ => rfl)) (pv 2) (by rfl)) (pe_and (pe_cmpR op_in_seq (pe_ix ix_tup (pv 0) pe_int (fun _ _ => rfl)) (pv 2) (by rfl)) (pe_one (pe_call (ok_is_integer T) (hr.mono (by decide)) (by rfl) T.g_is_integer T.k_is_integer T.b_is_integer .nil pass0 (pa_cons (pe_ix ix_tup (pv 0) pe_int (fun _ _ => rfl)) pa_nil))))))))
theorem sc_is_turn : FnScope ["turn", "states"] ["turn", "states"] (defScope st_is_turn) := ⟨rfl, rfl, rfl, by decide +kernel, rfl, by decide +kernel, by decide +kernel⟩
theorem ok_is_turn (T : Tx K mg) : FnOk P w K mg base CX0 2 (He.ga K "is_turn") (fdOf K (He.ga K "is_turn")) ["turn", "states"] (sp_is_turn K) := by
  have sc := sc_is_turn
  refine T.f_is_turn.ok sc (fun vs H Q E h => ?_) (fun cdv A outer s H vs Q E hr h => ⟨t_is_turn K, PSs.nox ?_, pure_is_turn h⟩)
  · obtain ⟨_, _, rfl, _⟩ := h
    rfl
  · exact (pss_one (ps_ret (pe_and (pe_call (ok_is_row T) (hr.mono (by decide)) (by rfl) T.g_is_row T.k_is_row T.b_is_row .nil pass0 (pa_cons (pv 0) (pa_cons pe_int pa_nil))) (pe_and (pe_cmpR op_in_seq (pe_ix ix_tup (pv 0) pe_int (fun _ _ => rfl)) (pv 1) (by rfl)) (pe_and (pe_cmpR op_in_seq (pe_ix ix_tup (pv 0) pe_int (fun _ _ => rfl)) (pv 1) (by rfl)) (pe_one (pe_call (ok_is_integer T) (hr.mono (by decide)) (by rfl) T.g_is_integer T.k_is_integer T.b_is_integer .nil pass0 (pa_cons (pe_ix ix_tup (pv 0) pe_int (fun _ _ => rfl)) pa_nil))))))))
theorem sc_check_states : FnScope ["states", "index", "state"] ["states"] (defScope st_check_states) := ⟨rfl, rfl, rfl, by decide +kernel, rfl, by decide +kernel, by decide +kernel⟩
theorem ok_check_states (T : Tx K mg) : FnOk P w K mg base CX0 2 (He.ga K "check_states") (fdOf K (He.ga K "check_states")) ["states"] (sp_check_states K) := by
  have sc := sc_check_states
  refine T.f_check_states.ok sc (fun vs H Q E h => ?_) (fun cdv A outer s H vs Q E hr h => ⟨t_check_states K, PSs.nox ?_, pure_check_states h⟩)
  · obtain ⟨_, rfl, _⟩ := h
    rfl
  · exact (pss_cons (ps_if (PW.pt (pw_or (pt_not (pt_val (pe_callB call_isi (by rfl) T.n_isinstance (by decide +kernel) (pa_cons (pv 0) (pa_cons (pe_bltn (by rfl) T.n_tuple (by decide +kernel) rfl) pa_nil))))) (pw_or1 (pt_cmpR op_eq (pe_callB call_len (by rfl) T.n_len (by decide +kernel) (pa_cons (pv 0) pa_nil)) pe_int (nomark _))))) (pss_one ps_never) pss_nil)
  (pss_one (ps_for PassesOwn.never rfl (pi_enumT (by rfl) T.n_enumerate (pa_cons (pv 0) pa_nil)) (pg_tup rfl (pgs_cons (pg_name (i := 1) sc.nd rfl (by first | exact Or.inl rfl | exact Or.inr rfl)) (pgs_cons (pg_name (i := 2) sc.nd rfl (by first | exact Or.inl rfl | exact Or.inr rfl)) pgs_nil))) (pss_one (ps_if (PW.pt (pw_or (pt_cmpR op_eq (pv 1) (pe_globI (by rfl) T.g_MOST_STATES) (nomark _)) (pw_or (pt_not (pt_val (pe_call (ok_is_name T) (hr.mono (by decide)) (by rfl) T.g_is_name T.k_is_name T.b_is_name .nil pass0 (pa_cons (pv 2) pa_nil)))) (pw_or1 (pt_cmpR op_in_seq (pv 2) (pe_slice sl_tupA (pv 0) po_none (po_some (pv 1))) (by rfl)))))) (pss_one ps_never) pss_nil)))))
theorem sc_check_rows : FnScope ["signs", "states", "rows", "seen", "index", "row"] ["signs", "states", "rows"] (defScope st_check_rows) := ⟨rfl, rfl, rfl, by decide +kernel, rfl, by decide +kernel, by decide +kernel⟩
theorem ok_check_rows (T : Tx K mg) : FnOk P w K mg base CX0 3 (He.ga K "check_rows") (fdOf K (He.ga K "check_rows")) ["signs", "states", "rows"] (sp_check_rows K) := by
  have sc := sc_check_rows
  refine T.f_check_rows.ok sc (fun vs H Q E h => ?_) (fun cdv A outer s H vs Q E hr h => ⟨t_check_rows K, PSs.nox ?_, pure_check_rows h⟩)
  · obtain ⟨_, _, _, rfl, _⟩ := h
    rfl
  · exact (pss_cons (ps_if (pt_not (pt_val (pe_callB call_isi (by rfl) T.n_isinstance (by decide +kernel) (pa_cons (pv 2) (pa_cons (pe_bltn (by rfl) T.n_tuple (by decide +kernel) rfl) pa_nil))))) (pss_one ps_never) pss_nil)
  (pss_cons (ps_set (i := 3) sc.nd rfl (by first | exact Or.inl rfl | exact Or.inr rfl) (pe_lst pa_nil))
  (pss_cons (ps_for PassesOwn.never rfl (pi_enumT (by rfl) T.n_enumerate (pa_cons (pv 2) pa_nil)) (pg_tup rfl (pgs_cons (pg_name (i := 4) sc.nd rfl (by first | exact Or.inl rfl | exact Or.inr rfl)) (pgs_cons (pg_name (i := 5) sc.nd rfl (by first | exact Or.inl rfl | exact Or.inr rfl)) pgs_nil))) (pss_cons (ps_if (PW.pt (pw_or (pt_not (pt_val (pe_call (ok_is_step T) (hr.mono (by decide)) (by rfl) T.g_is_step T.k_is_step T.b_is_step .nil pass0 (pa_cons (pv 5) (pa_cons (pv 0) (pa_cons (pv 1) pa_nil)))))) (pw_or1 (pt_cmpR (op_inD hr.u65) (pe_slice sl_tupA (pv 5) po_none (po_some pe_int)) (pv 3) (by rfl))))) (pss_one ps_never) pss_nil)
  (pss_one (ps_expr (pe_bm PySem.F.plainAttrs_list PySem.F.slot_list_append PySem.F.type_list_append mt_append (pv 3) (pa_cons (pe_slice sl_tupA (pv 5) po_none (po_some pe_int)) pa_nil))))))
  (pss_one (ps_if (pt_cmpR op_lt (pe_callB call_len (by rfl) T.n_len (by decide +kernel) (pa_cons (pv 2) pa_nil)) (pe_op op_mul (pe_callB call_len (by rfl) T.n_len (by decide +kernel) (pa_cons (pv 0) pa_nil)) (pe_callB call_len (by rfl) T.n_len (by decide +kernel) (pa_cons (pv 1) pa_nil))) (nomark _)) (pss_one ps_never) pss_nil)))))
theorem sc_check_turns : FnScope ["states", "turns", "seen", "index", "turn"] ["states", "turns"] (defScope st_check_turns) := ⟨rfl, rfl, rfl, by decide +kernel, rfl, by decide +kernel, by decide +kernel⟩
theorem ok_check_turns (T : Tx K mg) : FnOk P w K mg base CX0 3 (He.ga K "check_turns") (fdOf K (He.ga K "check_turns")) ["states", "turns"] (sp_check_turns K) := by
  have sc := sc_check_turns
  refine T.f_check_turns.ok sc (fun vs H Q E h => ?_) (fun cdv A outer s H vs Q E hr h => ⟨t_check_turns K, PSs.nox ?_, pure_check_turns h⟩)
  · obtain ⟨_, _, rfl, _⟩ := h
    rfl
  · exact (pss_cons (ps_if (pt_not (pt_val (pe_callB call_isi (by rfl) T.n_isinstance (by decide +kernel) (pa_cons (pv 1) (pa_cons (pe_bltn (by rfl) T.n_tuple (by decide +kernel) rfl) pa_nil))))) (pss_one ps_never) pss_nil)
  (pss_cons (ps_set (i := 2) sc.nd rfl (by first | exact Or.inl rfl | exact Or.inr rfl) (pe_lst pa_nil))
  (pss_one (ps_for PassesOwn.never rfl (pi_enumT (by rfl) T.n_enumerate (pa_cons (pv 1) pa_nil)) (pg_tup rfl (pgs_cons (pg_name (i := 3) sc.nd rfl (by first | exact Or.inl rfl | exact Or.inr rfl)) (pgs_cons (pg_name (i := 4) sc.nd rfl (by first | exact Or.inl rfl | exact Or.inr rfl)) pgs_nil))) (pss_cons (ps_if (PW.pt (pw_or (pt_not (pt_val (pe_call (ok_is_turn T) (hr.mono (by decide)) (by rfl) T.g_is_turn T.k_is_turn T.b_is_turn .nil pass0 (pa_cons (pv 4) (pa_cons (pv 0) pa_nil))))) (pw_or1 (pt_cmpR op_in_seq (pe_ix ix_tup (pv 4) pe_int (fun _ _ => rfl)) (pv 2) (by rfl))))) (pss_one ps_never) pss_nil)
  (pss_one (ps_expr (pe_bm PySem.F.plainAttrs_list PySem.F.slot_list_append PySem.F.type_list_append mt_append (pv 2) (pa_cons (pe_ix ix_tup (pv 4) pe_int (fun _ _ => rfl)) pa_nil)))))))))
theorem sc_check_yes : FnScope ["states", "yes", "index", "state"] ["states", "yes"] (defScope st_check_yes) := ⟨rfl, rfl, rfl, by decide +kernel, rfl, by decide +kernel, by decide +kernel⟩
theorem ok_check_yes (T : Tx K mg) : FnOk P w K mg base CX0 1 (He.ga K "check_yes") (fdOf K (He.ga K "check_yes")) ["states", "yes"] (sp_check_yes K) := by
  have sc := sc_check_yes
  refine T.f_check_yes.ok sc (fun vs H Q E h => ?_) (fun cdv A outer s H vs Q E hr h => ⟨t_check_yes K, PSs.nox ?_, pure_check_yes h⟩)
  · obtain ⟨_, _, rfl, _⟩ := h
    rfl
  · exact (pss_cons (ps_if (pt_not (pt_val (pe_callB call_isi (by rfl) T.n_isinstance (by decide +kernel) (pa_cons (pv 1) (pa_cons (pe_bltn (by rfl) T.n_tuple (by decide +kernel) rfl) pa_nil))))) (pss_one ps_never) pss_nil)
  (pss_one (ps_for PassesOwn.never rfl (pi_enumT (by rfl) T.n_enumerate (pa_cons (pv 1) pa_nil)) (pg_tup rfl (pgs_cons (pg_name (i := 2) sc.nd rfl (by first | exact Or.inl rfl | exact Or.inr rfl)) (pgs_cons (pg_name (i := 3) sc.nd rfl (by first | exact Or.inl rfl | exact Or.inr rfl)) pgs_nil))) (pss_one (ps_if (PW.pt (pw_or (pt_cmpR op_notIn_seq (pv 3) (pv 0) (by rfl)) (pw_or1 (pt_cmpR op_in_seq (pv 3) (pe_slice sl_tupA (pv 1) po_none (po_some (pv 2))) (by rfl))))) (pss_one ps_never) pss_nil)))))
theorem sc_Loop_init : FnScope ["self", "signs", "states", "rows", "turns", "yes", "state", "sign", "later", "amount", "given"] ["self", "signs", "states", "rows", "turns", "yes"] (defScope st_Loop_init) := ⟨rfl, rfl, rfl, by decide +kernel, rfl, by decide +kernel, by decide +kernel⟩
theorem ok_Loop_init (T : Tx K mg) : FnOk P w K mg base CX0 4 (He.ma K (He.ga K "Loop") "__init__") (fdOf K (He.ma K (He.ga K "Loop") "__init__")) ["self", "signs", "states", "rows", "turns", "yes"] (sp_Loop_init K) := by
  have sc := sc_Loop_init
  refine T.f_Loop_init.ok sc (fun vs H Q E h => ?_) (fun cdv A outer s H vs Q E hr h => ⟨t_Loop_init K, PSs.nox ?_, pure_Loop_init T.loopK h⟩)
  · obtain ⟨_, _, _, _, _, _, _, rfl, _⟩ := h
    rfl
  · exact (pss_cons (ps_expr (pe_call (ok_check_signs T) (hr.mono (by decide)) (by rfl) T.g_check_signs T.k_check_signs T.b_check_signs .nil pass0 (pa_cons (pv 1) pa_nil)))
  (pss_cons (ps_expr (pe_call (ok_check_states T) (hr.mono (by decide)) (by rfl) T.g_check_states T.k_check_states T.b_check_states .nil pass0 (pa_cons (pv 2) pa_nil)))
  (pss_cons (ps_expr (pe_call (ok_check_rows T) (hr.mono (by decide)) (by rfl) T.g_check_rows T.k_check_rows T.b_check_rows .nil pass0 (pa_cons (pv 1) (pa_cons (pv 2) (pa_cons (pv 3) pa_nil)))))
  (pss_cons (ps_expr (pe_call (ok_check_turns T) (hr.mono (by decide)) (by rfl) T.g_check_turns T.k_check_turns T.b_check_turns .nil pass0 (pa_cons (pv 2) (pa_cons (pv 4) pa_nil))))
  (pss_cons (ps_expr (pe_call (ok_check_yes T) (hr.mono (by decide)) (by rfl) T.g_check_yes T.k_check_yes T.b_check_yes .nil pass0 (pa_cons (pv 2) (pa_cons (pv 5) pa_nil))))
  (pss_cons (ps_fld (pv 0) (pe_join pe_str (pe_callB (cr_srt rfl) (by rfl) T.n_sorted (by decide +kernel) (pa_cons (pv 1) pa_nil))) rfl)
  (pss_cons (ps_fld (pv 0) (pv 2) rfl)
  (pss_cons (ps_fld (pv 0) (pe_dcT (own := [("state", 6), ("sign", 7), ("later", 8), ("amount", 9)]) (by rfl) hr.u1 sc.nd (pi_tup (pv 3)) (blkOk_by (own := [("state", 6), ("sign", 7), ("later", 8), ("amount", 9)]) (by kernel_rfl)) (fun _ _ _ _ _ => (pg_tup rfl (pgs_cons (pg_name (i := 6) sc.nd rfl (Or.inl rfl)) (pgs_cons (pg_name (i := 7) sc.nd rfl (Or.inl rfl)) (pgs_cons (pg_name (i := 8) sc.nd rfl (Or.inl rfl)) (pgs_cons (pg_name (i := 9) sc.nd rfl (Or.inl rfl)) pgs_nil)))))) (fun _ _ _ _ _ => pts_nil) (fun _ _ _ _ _ => (pe_tup (pa_cons (pv 6) (pa_cons (pv 7) pa_nil)))) (fun _ _ _ _ _ => (pe_tup (pa_cons (pv 8) (pa_cons (pv 9) pa_nil))))) rfl)
  (pss_cons (ps_set (i := 10) sc.nd rfl (by first | exact Or.inl rfl | exact Or.inr rfl) (pe_dc (own := [("state", 6), ("later", 8), ("amount", 9)]) (by rfl) sc.nd (pi_tup (pv 4)) (blkOk_by (own := [("state", 6), ("later", 8), ("amount", 9)]) (by kernel_rfl)) (fun _ _ _ _ _ => (pg_tup rfl (pgs_cons (pg_name (i := 6) sc.nd rfl (Or.inl rfl)) (pgs_cons (pg_name (i := 8) sc.nd rfl (Or.inl rfl)) (pgs_cons (pg_name (i := 9) sc.nd rfl (Or.inl rfl)) pgs_nil))))) (fun _ _ _ _ _ => pts_nil) (fun _ _ _ _ _ => (pv 6)) (fun _ _ _ _ _ => (pe_tup (pa_cons (pv 8) (pa_cons (pv 9) pa_nil))))))
  (pss_cons (ps_fld (pv 0) (pe_dc (own := [("state", 6)]) (by rfl) sc.nd (pi_tup (pv 2)) (blkOk_by (own := [("state", 6)]) (by kernel_rfl)) (fun _ _ _ _ _ => pg_name (i := 6) sc.nd rfl (Or.inl rfl)) (fun _ _ _ _ _ => pts_nil) (fun _ _ _ _ _ => (pv 6)) (fun _ _ _ _ _ => (pe_dget2 hr.u1 (pv 10) (pv 6) (pe_tup (pa_cons (pv 6) (pa_cons pe_int pa_nil))) ⟨rfl, rfl, rfl, rfl⟩))) rfl)
  (pss_one (ps_fld (pv 0) (pe_callTy call_tuple_of (by rfl) T.n_tuple (by decide +kernel) (pa_cons (pe_lc (own := [("state", 6)]) (g := gName 6) (by rfl) sc.nd (pi_tup (pv 2)) (blkOk_by (own := [("state", 6)]) (by kernel_rfl)) (fun _ _ _ _ _ => pg_name (i := 6) sc.nd rfl (Or.inl rfl)) (fun _ _ _ _ _ => (pts_one (pt_cmpR op_in_seq (pv 6) (pv 5) (by rfl)))) (fun _ _ _ _ _ => (pv 6))) pa_nil)) rfl))))))))))))
theorem sc_Loop_round_from : FnScope ["self", "state", "text", "count", "sign", "amount"] ["self", "state", "text"] (defScope st_Loop_round_from) := ⟨rfl, rfl, rfl, by decide +kernel, rfl, by decide +kernel, by decide +kernel⟩
theorem ok_Loop_round_from (T : Tx K mg) : FnOk P w K mg base CX0 1 (He.ma K (He.ga K "Loop") "round_from") (fdOf K (He.ma K (He.ga K "Loop") "round_from")) ["self", "state", "text"] (sp_Loop_round_from K) := by
  have sc := sc_Loop_round_from
  refine T.f_Loop_round_from.ok sc (fun vs H Q E h => ?_) (fun cdv A outer s H vs Q E hr h => ⟨t_Loop_round_from K, PSs.nox ?_, pure_Loop_round_from T.loopK h⟩)
  · obtain ⟨_, _, _, rfl, _⟩ := h
    rfl
  · exact (pss_cons (ps_set (i := 3) sc.nd rfl (by first | exact Or.inl rfl | exact Or.inr rfl) pe_int)
  (pss_cons (ps_for PassesOwn.never rfl (pi_str (pv 2)) (pg_name (i := 4) sc.nd rfl (by first | exact Or.inl rfl | exact Or.inr rfl)) (pss_cons (ps_asg (pe_dget hr.u1 (pe_fld (pv 0) rfl) (pe_tup (pa_cons (pv 1) (pa_cons (pv 4) pa_nil))) (fun _ _ => rfl)) (pg_tup rfl (pgs_cons (pg_name (i := 1) sc.nd rfl (by first | exact Or.inl rfl | exact Or.inr rfl)) (pgs_cons (pg_name (i := 5) sc.nd rfl (by first | exact Or.inl rfl | exact Or.inr rfl)) pgs_nil))))
  (pss_one (ps_aug (i := 3) sc.nd rfl (by first | exact Or.inl rfl | exact Or.inr rfl) (pv 5) ip_add (by first | exact Or.inl rfl | exact Or.inr rfl)))))
  (pss_cons (ps_asg (pe_dget hr.u1 (pe_fld (pv 0) rfl) (pv 1) (fun _ _ => rfl)) (pg_tup rfl (pgs_cons (pg_name (i := 1) sc.nd rfl (by first | exact Or.inl rfl | exact Or.inr rfl)) (pgs_cons (pg_name (i := 5) sc.nd rfl (by first | exact Or.inl rfl | exact Or.inr rfl)) pgs_nil))))
  (pss_one (ps_ret (pe_tup (pa_cons (pv 1) (pa_cons (pe_op op_add (pv 3) (pv 5)) pa_nil))))))))
theorem sc_Loop_history : FnScope ["self", "text", "states", "counts", "state", "count"] ["self", "text"] (defScope st_Loop_history) := ⟨rfl, rfl, rfl, by decide +kernel, rfl, by decide +kernel, by decide +kernel⟩
theorem ok_Loop_history (T : Tx K mg) : FnOk P w K mg base CX0 2 (He.ma K (He.ga K "Loop") "history") (fdOf K (He.ma K (He.ga K "Loop") "history")) ["self", "text"] (sp_Loop_history K) := by
  have sc := sc_Loop_history
  refine T.f_Loop_history.ok sc (fun vs H Q E h => ?_) (fun cdv A outer s H vs Q E hr h => ⟨t_Loop_history K, PSs.nox ?_, pure_Loop_history T.loopK h⟩)
  · obtain ⟨_, _, rfl, _⟩ := h
    rfl
  · exact (pss_cons (ps_if (pt_not (pt_val (pe_call (ok_is_word T) (hr.mono (by decide)) (by rfl) T.g_is_word T.k_is_word T.bf_is_word .nil pass0 (pa_cons (pv 1) (pa_cons (pe_fld (pv 0) rfl) pa_nil))))) (pss_one ps_never) pss_nil)
  (pss_cons (ps_par (by rfl) sc.nd rfl rfl (by decide) rfl rfl (pa_cons (pe_lst pa_nil) (pa_cons (pe_lst pa_nil) pa_nil)) (by rfl))
  (pss_cons (ps_set (i := 4) sc.nd rfl (by first | exact Or.inl rfl | exact Or.inr rfl) (pe_ix ix_tup (pe_fld (pv 0) rfl) pe_int (fun _ _ => rfl)))
  (pss_cons (ps_while PassesOwn.never (pt_cmpR op_notIn_seq (pv 4) (pv 2) (by rfl)) (pss_cons (ps_expr (pe_bm PySem.F.plainAttrs_list PySem.F.slot_list_append PySem.F.type_list_append mt_append (pv 2) (pa_cons (pv 4) pa_nil)))
  (pss_cons (ps_asg (pe_meth (pv 0) T.c_Loop T.m_Loop_round_from (ok_Loop_round_from T) (hr.mono (by decide)) T.b_Loop_round_from .nil pass0 (pa_cons (pv 4) (pa_cons (pv 1) pa_nil))) (pg_tup rfl (pgs_cons (pg_name (i := 4) sc.nd rfl (by first | exact Or.inl rfl | exact Or.inr rfl)) (pgs_cons (pg_name (i := 5) sc.nd rfl (by first | exact Or.inl rfl | exact Or.inr rfl)) pgs_nil))))
  (pss_one (ps_expr (pe_bm PySem.F.plainAttrs_list PySem.F.slot_list_append PySem.F.type_list_append mt_append (pv 3) (pa_cons (pv 5) pa_nil)))))))
  (pss_one (ps_ret (pe_tup (pa_cons (pv 2) (pa_cons (pv 3) (pa_cons (pe_bm PySem.F.plainAttrs_list PySem.F.slot_list_index PySem.F.type_list_index mt_index (pv 2) (pa_cons (pv 4) pa_nil)) pa_nil))))))))))
theorem sc_Loop_call : FnScope ["self", "text", "rounds", "states", "counts", "begin", "places", "at"] ["self", "text", "rounds"] (defScope st_Loop_call) := ⟨rfl, rfl, rfl, by decide +kernel, rfl, by decide +kernel, by decide +kernel⟩
theorem ok_Loop_call (T : Tx K mg) : FnOk P w K mg base CX0 3 (He.ma K (He.ga K "Loop") "__call__") (fdOf K (He.ma K (He.ga K "Loop") "__call__")) ["self", "text", "rounds"] (sp_Loop_call K) := by
  have sc := sc_Loop_call
  refine T.f_Loop_call.ok sc (fun vs H Q E h => ?_) (fun cdv A outer s H vs Q E hr h => ⟨t_Loop_call K, PSs.nox ?_, pure_Loop_call T.loopK h⟩)
  · obtain ⟨_, _, _, rfl, _⟩ := h
    rfl
  · exact (pss_cons (ps_asg (pe_meth (pv 0) T.c_Loop T.m_Loop_history (ok_Loop_history T) (hr.mono (by decide)) T.b_Loop_history .nil pass0 (pa_cons (pv 1) pa_nil)) (pg_tup rfl (pgs_cons (pg_name (i := 3) sc.nd rfl (by first | exact Or.inl rfl | exact Or.inr rfl)) (pgs_cons (pg_name (i := 4) sc.nd rfl (by first | exact Or.inl rfl | exact Or.inr rfl)) (pgs_cons (pg_name (i := 5) sc.nd rfl (by first | exact Or.inl rfl | exact Or.inr rfl)) pgs_nil)))))
  (pss_cons (ps_if (pt_not (pt_val (pe_call (ok_is_within T) (hr.mono (by decide)) (by rfl) T.g_is_within T.k_is_within T.b_is_within .nil pass0 (pa_cons (pv 2) (pa_cons pe_int (pa_cons (pe_globI (by rfl) T.g_MOST_ROUNDS) pa_nil)))))) (pss_one ps_never) pss_nil)
  (pss_cons (ps_set (i := 6) sc.nd rfl (by first | exact Or.inl rfl | exact Or.inr rfl) (pe_lc (own := [("at", 7)]) (g := gName 7) (by rfl) sc.nd (pi_range1 (by rfl) T.n_range (pa_cons (pe_op op_add (pv 2) pe_int) pa_nil)) (blkOk_by (own := [("at", 7)]) (by kernel_rfl)) (fun _ _ _ _ _ => pg_name (i := 7) sc.nd rfl (Or.inl rfl)) (fun _ _ _ _ _ => pts_nil) (fun _ _ _ _ _ => (pe_call (ok_place_of T) (hr.mono (by decide)) (by rfl) T.g_place_of T.k_place_of T.b_place_of .nil pass0 (pa_cons (pv 7) (pa_cons (pe_callB call_len (by rfl) T.n_len (by decide +kernel) (pa_cons (pv 3) pa_nil)) (pa_cons (pv 5) pa_nil)))))))
  (pss_one (ps_ret (pe_callTy call_tuple_of (by rfl) T.n_tuple (by decide +kernel) (pa_cons (pe_lc (own := [("at", 7)]) (g := gName 7) (by rfl) sc.nd (pi_range1 (by rfl) T.n_range (pa_cons (pv 2) pa_nil)) (blkOk_by (own := [("at", 7)]) (by kernel_rfl)) (fun _ _ _ _ _ => pg_name (i := 7) sc.nd rfl (Or.inl rfl)) (fun _ _ _ _ _ => pts_nil) (fun _ _ _ _ _ => (pe_tup (pa_cons (pe_ix ix_list (pv 4) (pe_ix ix_list (pv 6) (pv 7) (fun _ _ => rfl)) (fun _ _ => rfl)) (pa_cons (pe_cmpR op_in_seq (pe_ix ix_list (pv 3) (pe_ix ix_list (pv 6) (pe_op op_add (pv 7) pe_int) (fun _ _ => rfl)) (fun _ _ => rfl)) (pe_fld (pv 0) rfl) (by rfl)) pa_nil))))) pa_nil)))))))
theorem sc_Loop_state : FnScope ["self", "text", "rounds", "states", "counts", "begin"] ["self", "text", "rounds"] (defScope st_Loop_state) := ⟨rfl, rfl, rfl, by decide +kernel, rfl, by decide +kernel, by decide +kernel⟩
theorem ok_Loop_state (T : Tx K mg) : FnOk P w K mg base CX0 3 (He.ma K (He.ga K "Loop") "state") (fdOf K (He.ma K (He.ga K "Loop") "state")) ["self", "text", "rounds"] (sp_Loop_state K) := by
  have sc := sc_Loop_state
  refine T.f_Loop_state.ok sc (fun vs H Q E h => ?_) (fun cdv A outer s H vs Q E hr h => ⟨t_Loop_state K, PSs.nox ?_, pure_Loop_state T.loopK h⟩)
  · obtain ⟨_, _, _, rfl, _⟩ := h
    rfl
  · exact (pss_cons (ps_asg (pe_meth (pv 0) T.c_Loop T.m_Loop_history (ok_Loop_history T) (hr.mono (by decide)) T.b_Loop_history .nil pass0 (pa_cons (pv 1) pa_nil)) (pg_tup rfl (pgs_cons (pg_name (i := 3) sc.nd rfl (by first | exact Or.inl rfl | exact Or.inr rfl)) (pgs_cons (pg_name (i := 4) sc.nd rfl (by first | exact Or.inl rfl | exact Or.inr rfl)) (pgs_cons (pg_name (i := 5) sc.nd rfl (by first | exact Or.inl rfl | exact Or.inr rfl)) pgs_nil)))))
  (pss_cons (ps_if (PW.pt (pw_or (pt_not (pt_val (pe_call (ok_is_integer T) (hr.mono (by decide)) (by rfl) T.g_is_integer T.k_is_integer T.b_is_integer .nil pass0 (pa_cons (pv 2) pa_nil)))) (pw_or1 (pt_cmpR op_lt (pv 2) pe_int (nomark _))))) (pss_one ps_never) pss_nil)
  (pss_one (ps_ret (pe_ix ix_list (pv 3) (pe_call (ok_place_of T) (hr.mono (by decide)) (by rfl) T.g_place_of T.k_place_of T.b_place_of .nil pass0 (pa_cons (pv 2) (pa_cons (pe_callB call_len (by rfl) T.n_len (by decide +kernel) (pa_cons (pv 3) pa_nil)) (pa_cons (pv 5) pa_nil)))) (fun _ _ => rfl))))))
theorem sc_Loop_total : FnScope ["self", "text", "rounds", "states", "counts", "begin", "times", "rest"] ["self", "text", "rounds"] (defScope st_Loop_total) := ⟨rfl, rfl, rfl, by decide +kernel, rfl, by decide +kernel, by decide +kernel⟩
theorem ok_Loop_total (T : Tx K mg) : FnOk P w K mg base CX0 3 (He.ma K (He.ga K "Loop") "total") (fdOf K (He.ma K (He.ga K "Loop") "total")) ["self", "text", "rounds"] (sp_Loop_total K) := by
  have sc := sc_Loop_total
  refine T.f_Loop_total.ok sc (fun vs H Q E h => ?_) (fun cdv A outer s H vs Q E hr h => ⟨t_Loop_total K, PSs.nox ?_, pure_Loop_total T.loopK h⟩)
  · obtain ⟨_, _, _, rfl, _⟩ := h
    rfl
  · exact (pss_cons (ps_asg (pe_meth (pv 0) T.c_Loop T.m_Loop_history (ok_Loop_history T) (hr.mono (by decide)) T.b_Loop_history .nil pass0 (pa_cons (pv 1) pa_nil)) (pg_tup rfl (pgs_cons (pg_name (i := 3) sc.nd rfl (by first | exact Or.inl rfl | exact Or.inr rfl)) (pgs_cons (pg_name (i := 4) sc.nd rfl (by first | exact Or.inl rfl | exact Or.inr rfl)) (pgs_cons (pg_name (i := 5) sc.nd rfl (by first | exact Or.inl rfl | exact Or.inr rfl)) pgs_nil)))))
  (pss_cons (ps_if (PW.pt (pw_or (pt_not (pt_val (pe_call (ok_is_integer T) (hr.mono (by decide)) (by rfl) T.g_is_integer T.k_is_integer T.b_is_integer .nil pass0 (pa_cons (pv 2) pa_nil)))) (pw_or1 (pt_cmpR op_lt (pv 2) pe_int (nomark _))))) (pss_one ps_never) pss_nil)
  (pss_cons (ps_if (pt_cmpR op_lt (pv 2) (pv 5) (nomark _)) (pss_one (ps_ret (pe_callB (cr_sum rfl) (by rfl) T.n_sum (by decide +kernel) (pa_cons (pe_slice sl_list (pv 4) po_none (po_some (pv 2))) pa_nil)))) pss_nil)
  (pss_cons (ps_asg (pe_callB call_divmodW (by rfl) T.n_divmod (by decide +kernel) (pa_cons (pe_op op_sub (pv 2) (pv 5)) (pa_cons (pe_op op_sub (pe_callB call_len (by rfl) T.n_len (by decide +kernel) (pa_cons (pv 4) pa_nil)) (pv 5)) pa_nil))) (pg_tup rfl (pgs_cons (pg_name (i := 6) sc.nd rfl (by first | exact Or.inl rfl | exact Or.inr rfl)) (pgs_cons (pg_name (i := 7) sc.nd rfl (by first | exact Or.inl rfl | exact Or.inr rfl)) pgs_nil))))
  (pss_one (ps_ret (pe_op op_add (pe_callB (cr_sum rfl) (by rfl) T.n_sum (by decide +kernel) (pa_cons (pe_slice sl_list (pv 4) po_none (po_some (pe_op op_add (pv 5) (pv 7)))) pa_nil)) (pe_op op_mulW (pv 6) (pe_callB (cr_sum rfl) (by rfl) T.n_sum (by decide +kernel) (pa_cons (pe_slice sl_list (pv 4) (po_some (pv 5)) po_none) pa_nil))))))))))
theorem sc_Loop_pace : FnScope ["self", "text", "states", "counts", "begin"] ["self", "text"] (defScope st_Loop_pace) := ⟨rfl, rfl, rfl, by decide +kernel, rfl, by decide +kernel, by decide +kernel⟩
theorem ok_Loop_pace (T : Tx K mg) : FnOk P w K mg base CX0 3 (He.ma K (He.ga K "Loop") "pace") (fdOf K (He.ma K (He.ga K "Loop") "pace")) ["self", "text"] (sp_Loop_pace K) := by
  have sc := sc_Loop_pace
  refine T.f_Loop_pace.ok sc (fun vs H Q E h => ?_) (fun cdv A outer s H vs Q E hr h => ⟨t_Loop_pace K, PSs.nox ?_, pure_Loop_pace T.loopK h⟩)
  · obtain ⟨_, _, rfl, _⟩ := h
    rfl
  · exact (pss_cons (ps_asg (pe_meth (pv 0) T.c_Loop T.m_Loop_history (ok_Loop_history T) (hr.mono (by decide)) T.b_Loop_history .nil pass0 (pa_cons (pv 1) pa_nil)) (pg_tup rfl (pgs_cons (pg_name (i := 2) sc.nd rfl (by first | exact Or.inl rfl | exact Or.inr rfl)) (pgs_cons (pg_name (i := 3) sc.nd rfl (by first | exact Or.inl rfl | exact Or.inr rfl)) (pgs_cons (pg_name (i := 4) sc.nd rfl (by first | exact Or.inl rfl | exact Or.inr rfl)) pgs_nil)))))
  (pss_one (ps_ret (pe_call (ok_lowest_terms T) (hr.mono (by decide)) (by rfl) T.g_lowest_terms T.k_lowest_terms T.b_lowest_terms .nil pass0 (pa_cons (pe_callB (cr_sum rfl) (by rfl) T.n_sum (by decide +kernel) (pa_cons (pe_slice sl_list (pv 3) (po_some (pv 4)) po_none) pa_nil)) (pa_cons (pe_op op_sub (pe_callB call_len (by rfl) T.n_len (by decide +kernel) (pa_cons (pv 3) pa_nil)) (pv 4)) pa_nil))))))
theorem sc_lawP_purse : FnScope ["_law_script", "_law_spot", "_law_own", "_law_mixed", "_law_cell"] ["_law_script", "_law_spot"] (defScope st_lawP_purse) := ⟨rfl, rfl, rfl, by decide +kernel, rfl, by decide +kernel, by decide +kernel⟩
theorem ok_lawP_purse (T : Tx K mg) : FnOk P w K mg base CX0 1 (He.ga K "_law_purse") (fdOf K (He.ga K "_law_purse")) ["_law_script", "_law_spot"] (sp_lawP_purse K) := by
  have sc := sc_lawP_purse
  refine T.f_lawP_purse.ok sc (fun vs H Q E h => ?_) (fun cdv A outer s H vs Q E hr h => ⟨t_lawP_purse K, PSs.nox ?_, pure_lawP_purse h⟩)
  · obtain ⟨_, _, _, rfl, _⟩ := h
    rfl
  · exact (pss_cons (ps_set (i := 2) sc.nd rfl (by first | exact Or.inl rfl | exact Or.inr rfl) (pe_ifExp (pt_cmpR op_lt (pv 1) (pe_callB call_len (by rfl) T.n_len (by decide +kernel) (pa_cons (pv 0) pa_nil)) (nomark _)) (pe_ix ix_list (pv 0) (pv 1) (fun _ _ => rfl)) pe_int))
  (pss_cons (ps_set (i := 3) sc.nd rfl (by first | exact Or.inl rfl | exact Or.inr rfl) (pe_op op_add pe_int (pe_op op_mul pe_int (pv 1))))
  (pss_cons (ps_for PassesOwn.never rfl (pi_list (pe_op op_cat (pe_slice sl_list (pv 0) po_none (po_some pe_int)) (pe_slice sl_list (pv 0) (po_some (pv 1)) (po_some (pe_op op_add (pv 1) pe_int))))) (pg_name (i := 4) sc.nd rfl (by first | exact Or.inl rfl | exact Or.inr rfl)) (pss_one (ps_set (i := 3) sc.nd rfl (by first | exact Or.inl rfl | exact Or.inr rfl) (pe_op op_mod (pe_callTy call_int1 (by rfl) T.n_int (by decide +kernel) (pa_cons (pe_op op_add (pe_op op_add (pe_op op_mul (pv 3) pe_int) (pe_op op_mul (pv 4) pe_int)) pe_int) pa_nil)) pe_int))))
  (pss_one (ps_ret (pe_lst (pa_cons (pe_ifExp (pt_cmpR op_ge (pe_callB call_abs (by rfl) T.n_abs (by decide +kernel) (pa_cons (pv 2) pa_nil)) (pe_op op_pow pe_int pe_int) (nomark _)) (pe_callB call_abs (by rfl) T.n_abs (by decide +kernel) (pa_cons (pv 2) pa_nil)) pe_int) (pa_cons (pv 3) (pa_cons pe_int pa_nil)))))))))
theorem sc_lawP_pick : FnScope ["_law_purse_here", "_law_length", "_law_seed", "_law_again", "_law_digit"] ["_law_purse_here", "_law_length"] (defScope st_lawP_pick) := ⟨rfl, rfl, rfl, by decide +kernel, rfl, by decide +kernel, by decide +kernel⟩
theorem ok_lawP_pick (T : Tx K mg) : FnOk P w K mg base CX0 1 (He.ga K "_law_pick") (fdOf K (He.ga K "_law_pick")) ["_law_purse_here", "_law_length"] (sp_lawP_pick K) := by
  have sc := sc_lawP_pick
  refine T.f_lawP_pick.ok sc (fun vs H Q E h => ?_) (fun cdv A outer s H vs Q E hr h => ⟨t_lawP_pick K, PSs.nox ?_, pure_lawP_pick h⟩)
  · obtain ⟨_, _, rfl, _⟩ := h
    rfl
  · exact (pss_cons (ps_asg (pe_op op_add (pe_ix ix_list (pv 0) pe_int (fun _ _ => rfl)) pe_int) (pg_sub (pv 0) pe_int set_list))
  (pss_cons (ps_set (i := 2) sc.nd rfl (by first | exact Or.inl rfl | exact Or.inr rfl) (pe_callTy call_int1 (by rfl) T.n_int (by decide +kernel) (pa_cons (pe_ix ix_list (pv 0) pe_int (fun _ _ => rfl)) pa_nil)))
  (pss_cons (ps_set (i := 3) sc.nd rfl (by first | exact Or.inl rfl | exact Or.inr rfl) (pe_op op_mul (pe_op op_add (pe_op op_mod (pe_callTy call_int1 (by rfl) T.n_int (by decide +kernel) (pa_cons (pv 2) pa_nil)) pe_int) pe_int) (pe_op op_add (pe_op op_fdiv (pv 2) pe_int) pe_int)))
  (pss_cons (ps_asg (pe_op op_mod (pe_callTy call_int1 (by rfl) T.n_int (by decide +kernel) (pa_cons (pe_op op_add (pv 3) (pe_op op_mul (pe_ix ix_list (pv 0) pe_int (fun _ _ => rfl)) pe_int)) pa_nil)) pe_int) (pg_sub (pv 0) pe_int set_list))
  (pss_cons (ps_if (pt_cmpR op_gt (pe_ix ix_list (pv 0) pe_int (fun _ _ => rfl)) pe_int (nomark _)) (pss_cons (ps_asg (pe_callB call_divmodW (by rfl) T.n_divmod (by decide +kernel) (pa_cons (pe_ix ix_list (pv 0) pe_int (fun _ _ => rfl)) (pa_cons (pv 1) pa_nil))) (pg_tup rfl (pgs_cons (pg_sub (pv 0) pe_int set_list) (pgs_cons (pg_name (i := 4) sc.nd rfl (by first | exact Or.inl rfl | exact Or.inr rfl)) pgs_nil))))
  (pss_one (ps_ret (pv 4)))) pss_nil)
  (pss_one (ps_ret (pe_op op_mod (pe_callTy call_int1 (by rfl) T.n_int (by decide +kernel) (pa_cons (pe_op op_fdiv (pe_ix ix_list (pv 0) pe_int (fun _ _ => rfl)) pe_int) pa_nil)) (pv 1)))))))))
theorem sc_lawP_names : FnScope ["_law_purse_here", "_law_length", "_law_signs_here", "_law_found", "_law_k", "_law_size", "_law_called", "_law_spare", "_law_j", "_law_one"] ["_law_purse_here", "_law_length"] (defScope st_lawP_names) := ⟨rfl, rfl, rfl, by decide +kernel, rfl, by decide +kernel, by decide +kernel⟩
theorem ok_lawP_names (T : Tx K mg) : FnOk P w K mg base CX0 2 (He.ga K "_law_names") (fdOf K (He.ga K "_law_names")) ["_law_purse_here", "_law_length"] (sp_lawP_names K) := by
  have sc := sc_lawP_names
  refine T.f_lawP_names.ok sc (fun vs H Q E h => ?_) (fun cdv A outer s H vs Q E hr h => ⟨t_lawP_names K, PSs.nox ?_, pure_lawP_names h⟩)
  · obtain ⟨_, _, rfl, _⟩ := h
    rfl
  · exact (pss_cons (ps_set (i := 2) sc.nd rfl (by first | exact Or.inl rfl | exact Or.inr rfl) pe_str)
  (pss_cons (ps_set (i := 3) sc.nd rfl (by first | exact Or.inl rfl | exact Or.inr rfl) (pe_lst pa_nil))
  (pss_cons (ps_for PassesOwn.never rfl (pi_range1 (by rfl) T.n_range (pa_cons (pv 1) pa_nil)) (pg_name (i := 4) sc.nd rfl (by first | exact Or.inl rfl | exact Or.inr rfl)) (pss_cons (ps_set (i := 5) sc.nd rfl (by first | exact Or.inl rfl | exact Or.inr rfl) (pe_ix ix_list (pe_lst (pa_cons pe_int (pa_cons pe_int (pa_cons pe_int (pa_cons pe_int (pa_cons pe_int pa_nil)))))) (pe_call (ok_lawP_pick T) (hr.mono (by decide)) (by rfl) T.g_lawP_pick T.k_lawP_pick T.b_lawP_pick .nil pass0 (pa_cons (pv 0) (pa_cons pe_int pa_nil))) (fun _ _ => rfl)))
  (pss_cons (ps_set (i := 6) sc.nd rfl (by first | exact Or.inl rfl | exact Or.inr rfl) (pe_ix ix_str (pv 2) (pe_call (ok_lawP_pick T) (hr.mono (by decide)) (by rfl) T.g_lawP_pick T.k_lawP_pick T.b_lawP_pick .nil pass0 (pa_cons (pv 0) (pa_cons pe_int pa_nil))) (fun _ _ => rfl)))
  (pss_cons (ps_set (i := 6) sc.nd rfl (by first | exact Or.inl rfl | exact Or.inr rfl) (pe_op op_addS (pv 6) (pe_join pe_str (pe_lc (own := [("_law_j", 8)]) (g := gName 8) (by rfl) sc.nd (pi_range1 (by rfl) T.n_range (pa_cons (pv 5) pa_nil)) (blkOk_by (own := [("_law_j", 8)]) (by kernel_rfl)) (fun _ _ _ _ _ => pg_name (i := 8) sc.nd rfl (Or.inl rfl)) (fun _ _ _ _ _ => pts_nil) (fun _ _ _ _ _ => (pe_ix ix_str (pv 2) (pe_call (ok_lawP_pick T) (hr.mono (by decide)) (by rfl) T.g_lawP_pick T.k_lawP_pick T.b_lawP_pick .nil pass0 (pa_cons (pv 0) (pa_cons pe_int pa_nil))) (fun _ _ => rfl)))))))
  (pss_cons (ps_set (i := 7) sc.nd rfl (by first | exact Or.inl rfl | exact Or.inr rfl) (pe_op op_cat (pe_lst (pa_cons (pv 6) pa_nil)) (pe_lc (own := [("_law_j", 8)]) (g := gName 8) (by rfl) sc.nd (pi_range1 (by rfl) T.n_range (pa_cons (pv 1) pa_nil)) (blkOk_by (own := [("_law_j", 8)]) (by kernel_rfl)) (fun _ _ _ _ _ => pg_name (i := 8) sc.nd rfl (Or.inl rfl)) (fun _ _ _ _ _ => pts_nil) (fun _ _ _ _ _ => (pe_op op_addS pe_str (pe_callTy cr_strI (by rfl) T.n_str (by decide +kernel) (pa_cons (pv 8) pa_nil)))))))
  (pss_one (ps_expr (pe_bm PySem.F.plainAttrs_list PySem.F.slot_list_append PySem.F.type_list_append mt_append (pv 3) (pa_cons (pe_ix ix_list (pe_lc (own := [("_law_one", 9)]) (g := gName 9) (by rfl) sc.nd (pi_list (pv 7)) (blkOk_by (own := [("_law_one", 9)]) (by kernel_rfl)) (fun _ _ _ _ _ => pg_name (i := 9) sc.nd rfl (Or.inl rfl)) (fun _ _ _ _ _ => (pts_one (pt_cmpR op_notIn_seq (pv 9) (pv 3) (by rfl)))) (fun _ _ _ _ _ => (pv 9))) pe_int (fun _ _ => rfl)) pa_nil)))))))))
  (pss_one (ps_ret (pv 3))))))
theorem sc_lawP_signs : FnScope ["_law_purse_here", "_law_length"] ["_law_purse_here", "_law_length"] (defScope st_lawP_signs) := ⟨rfl, rfl, rfl, by decide +kernel, rfl, by decide +kernel, by decide +kernel⟩
theorem ok_lawP_signs (T : Tx K mg) : FnOk P w K mg base CX0 2 (He.ga K "_law_signs") (fdOf K (He.ga K "_law_signs")) ["_law_purse_here", "_law_length"] (sp_lawP_signs K) := by
  have sc := sc_lawP_signs
  refine T.f_lawP_signs.ok sc (fun vs H Q E h => ?_) (fun cdv A outer s H vs Q E hr h => ⟨t_lawP_signs K, PSs.nox ?_, pure_lawP_signs h⟩)
  · obtain ⟨_, _, rfl, _⟩ := h
    rfl
  · exact (pss_one (ps_ret (pe_slice sl_str (pe_ix ix_list (pe_lst (pa_cons pe_str (pa_cons pe_str (pa_cons pe_str pa_nil)))) (pe_call (ok_lawP_pick T) (hr.mono (by decide)) (by rfl) T.g_lawP_pick T.k_lawP_pick T.b_lawP_pick .nil pass0 (pa_cons (pv 0) (pa_cons pe_int pa_nil))) (fun _ _ => rfl)) po_none (po_some (pv 1)))))
theorem sc_lawP_amount : FnScope ["_law_purse_here", "_law_great", "_law_worth"] ["_law_purse_here", "_law_great"] (defScope st_lawP_amount) := ⟨rfl, rfl, rfl, by decide +kernel, rfl, by decide +kernel, by decide +kernel⟩
theorem ok_lawP_amount (T : Tx K mg) : FnOk P w K mg base CX0 2 (He.ga K "_law_amount") (fdOf K (He.ga K "_law_amount")) ["_law_purse_here", "_law_great"] (sp_lawP_amount K) := by
  have sc := sc_lawP_amount
  refine T.f_lawP_amount.ok sc (fun vs H Q E h => ?_) (fun cdv A outer s H vs Q E hr h => ⟨t_lawP_amount K, PSs.nox ?_, pure_lawP_amount h⟩)
  · obtain ⟨_, _, rfl, _⟩ := h
    rfl
  · exact (pss_cons (ps_set (i := 2) sc.nd rfl (by first | exact Or.inl rfl | exact Or.inr rfl) (pe_op op_sub (pe_call (ok_lawP_pick T) (hr.mono (by decide)) (by rfl) T.g_lawP_pick T.k_lawP_pick T.b_lawP_pick .nil pass0 (pa_cons (pv 0) (pa_cons pe_int pa_nil))) pe_int))
  (pss_cons (ps_if (PW.pt (pw_and (pt_val (pv 1)) (pw_and1 (pt_cmpR op_eq (pe_call (ok_lawP_pick T) (hr.mono (by decide)) (by rfl) T.g_lawP_pick T.k_lawP_pick T.b_lawP_pick .nil pass0 (pa_cons (pv 0) (pa_cons pe_int pa_nil))) pe_int (nomark _))))) (pss_one (ps_set (i := 2) sc.nd rfl (by first | exact Or.inl rfl | exact Or.inr rfl) (pe_op op_add (pe_op op_mul (pv 2) (pe_op op_pow pe_int pe_int)) (pe_call (ok_lawP_pick T) (hr.mono (by decide)) (by rfl) T.g_lawP_pick T.k_lawP_pick T.b_lawP_pick .nil pass0 (pa_cons (pv 0) (pa_cons pe_int pa_nil)))))) pss_nil)
  (pss_one (ps_ret (pv 2)))))
theorem sc_lawP_model : FnScope ["_law_purse_here", "_law_size", "_law_signs_here", "_law_great", "_law_way", "_law_steps", "_law_turn", "_law_sign", "_law_goal", "_law_state", "_law_later", "_law_ends", "_law_yes_list"] ["_law_purse_here", "_law_size", "_law_signs_here", "_law_great"] (defScope st_lawP_model) := ⟨rfl, rfl, rfl, by decide +kernel, rfl, by decide +kernel, by decide +kernel⟩
theorem ok_lawP_model (T : Tx K mg) : FnOk P w K mg base CX0 3 (He.ga K "_law_model") (fdOf K (He.ga K "_law_model")) ["_law_purse_here", "_law_size", "_law_signs_here", "_law_great"] (sp_lawP_model K) := by
  have sc := sc_lawP_model
  refine T.f_lawP_model.ok sc (fun vs H Q E h => ?_) (fun cdv A outer s H vs Q E hr h => ⟨t_lawP_model K, PSs.nox ?_, pure_lawP_model h⟩)
  · obtain ⟨_, _, _, _, rfl, _⟩ := h
    rfl
  · exact (pss_cons (ps_set (i := 4) sc.nd rfl (by first | exact Or.inl rfl | exact Or.inr rfl) (pe_call (ok_lawP_pick T) (hr.mono (by decide)) (by rfl) T.g_lawP_pick T.k_lawP_pick T.b_lawP_pick .nil pass0 (pa_cons (pv 0) (pa_cons pe_int pa_nil))))
  (pss_cons (ps_par (by rfl) sc.nd rfl rfl (by decide) rfl rfl (pa_cons pe_dnewT (pa_cons (pe_call (ok_lawP_pick T) (hr.mono (by decide)) (by rfl) T.g_lawP_pick T.k_lawP_pick T.b_lawP_pick .nil pass0 (pa_cons (pv 0) (pa_cons (pv 1) pa_nil))) pa_nil)) (by rfl))
  (pss_cons (ps_for PassesOwn.never rfl (pi_str (pv 2)) (pg_name (i := 7) sc.nd rfl (by first | exact Or.inl rfl | exact Or.inr rfl)) (pss_cons (ps_set (i := 8) sc.nd rfl (by first | exact Or.inl rfl | exact Or.inr rfl) (pe_call (ok_lawP_pick T) (hr.mono (by decide)) (by rfl) T.g_lawP_pick T.k_lawP_pick T.b_lawP_pick .nil pass0 (pa_cons (pv 0) (pa_cons (pv 1) pa_nil))))
  (pss_one (ps_for PassesOwn.never rfl (pi_range1 (by rfl) T.n_range (pa_cons (pv 1) pa_nil)) (pg_name (i := 9) sc.nd rfl (by first | exact Or.inl rfl | exact Or.inr rfl)) (pss_cons (ps_set (i := 10) sc.nd rfl (by first | exact Or.inl rfl | exact Or.inr rfl) (pe_ifExp (pt_cmpR op_in_seq (pv 4) (pe_lst (pa_cons pe_int (pa_cons pe_int pa_nil))) (by rfl)) (pe_call (ok_lawP_pick T) (hr.mono (by decide)) (by rfl) T.g_lawP_pick T.k_lawP_pick T.b_lawP_pick .nil pass0 (pa_cons (pv 0) (pa_cons (pv 1) pa_nil))) (pe_op op_mod (pe_callTy call_int1 (by rfl) T.n_int (by decide +kernel) (pa_cons (pe_op op_add (pv 9) (pv 8)) pa_nil)) (pv 1))))
  (pss_cons (ps_set (i := 10) sc.nd rfl (by first | exact Or.inl rfl | exact Or.inr rfl) (pe_ifExp (pt_cmpR op_eq (pv 4) pe_int (nomark _)) (pv 8) (pv 10)))
  (pss_one (ps_dput hr.u1 (pv 5) (pe_tup (pa_cons (pv 9) (pa_cons (pv 7) pa_nil))) (pe_tup (pa_cons (pv 10) (pa_cons (pe_call (ok_lawP_amount T) (hr.mono (by decide)) (by rfl) T.g_lawP_amount T.k_lawP_amount T.b_lawP_amount .nil pass0 (pa_cons (pv 0) (pa_cons (pv 3) pa_nil))) pa_nil))) rfl))))))))
  (pss_cons (ps_set (i := 11) sc.nd rfl (by first | exact Or.inl rfl | exact Or.inr rfl) (pe_lst pa_nil))
  (pss_cons (ps_for PassesOwn.never rfl (pi_range1 (by rfl) T.n_range (pa_cons (pv 1) pa_nil)) (pg_name (i := 9) sc.nd rfl (by first | exact Or.inl rfl | exact Or.inr rfl)) (pss_cons (ps_set (i := 10) sc.nd rfl (by first | exact Or.inl rfl | exact Or.inr rfl) (pe_ifExp (pt_cmpR op_eq (pv 4) pe_int (nomark _)) (pe_call (ok_lawP_pick T) (hr.mono (by decide)) (by rfl) T.g_lawP_pick T.k_lawP_pick T.b_lawP_pick .nil pass0 (pa_cons (pv 0) (pa_cons (pv 1) pa_nil))) (pv 9)))
  (pss_one (ps_expr (pe_bm PySem.F.plainAttrs_list PySem.F.slot_list_append PySem.F.type_list_append mt_append (pv 11) (pa_cons (pe_tup (pa_cons (pe_ifExp (pt_cmpR op_eq (pv 4) pe_int (nomark _)) (pv 6) (pv 10)) (pa_cons (pe_ifExp (pt_cmpR op_eq (pe_call (ok_lawP_pick T) (hr.mono (by decide)) (by rfl) T.g_lawP_pick T.k_lawP_pick T.b_lawP_pick .nil pass0 (pa_cons (pv 0) (pa_cons pe_int pa_nil))) pe_int (nomark _)) (pe_call (ok_lawP_amount T) (hr.mono (by decide)) (by rfl) T.g_lawP_amount T.k_lawP_amount T.b_lawP_amount .nil pass0 (pa_cons (pv 0) (pa_cons pe_bl pa_nil))) pe_int) pa_nil))) pa_nil))))))
  (pss_cons (ps_setLc (i := 12) (own := [("_law_state", 9)]) (g := gName 9) (by rfl) sc.nd rfl rfl (sw_true rfl rfl rfl (by decide +kernel)) (pi_range1 (by rfl) T.n_range (pa_cons (pv 1) pa_nil)) (blkOk_by (own := [("_law_state", 9)]) (by kernel_rfl)) (fun _ _ _ _ _ => pg_name (i := 9) sc.nd rfl (Or.inl rfl)) (fun _ _ _ _ _ => (pts_one (pt_cmpR op_eq (pe_call (ok_lawP_pick T) (hr.mono (by decide)) (by rfl) T.g_lawP_pick T.k_lawP_pick T.b_lawP_pick .nil pass0 (pa_cons (pv 0) (pa_cons pe_int pa_nil))) pe_int (nomark _)))) (fun _ _ _ _ _ => (pv 9)))
  (pss_one (ps_ret (pe_disp (pps_cons pe_str (pv 2) (pps_cons pe_str (pv 5) (pps_cons pe_str (pv 11) (pps_cons pe_str (pv 12) (pps_cons pe_str (pe_call (ok_lawP_names T) (hr.mono (by decide)) (by rfl) T.g_lawP_names T.k_lawP_names T.b_lawP_names .nil pass0 (pa_cons (pv 0) (pa_cons (pv 1) pa_nil))) pps_nil))))) rfl rfl (by simp) (by decide))))))))))
theorem sc_lawP_loop : FnScope ["_law_model_here", "_law_names_here", "_law_size", "_law_rows", "_law_state", "_law_sign", "_law_later", "_law_amount_here", "_law_turns", "_law_yes_list"] ["_law_model_here"] (defScope st_lawP_loop) := ⟨rfl, rfl, rfl, by decide +kernel, rfl, by decide +kernel, by decide +kernel⟩
theorem ok_lawP_loop (T : Tx K mg) : FnOk P w K mg base CX0 6 (He.ga K "_law_loop") (fdOf K (He.ga K "_law_loop")) ["_law_model_here"] (sp_lawP_loop K) := by
  have sc := sc_lawP_loop
  obtain ⟨gqLoop_init_5_yes, kbqLoop_init_5_yes⟩ := T.qLoop_init_5_yes
  refine T.f_lawP_loop.ok sc (fun vs H Q E h => ?_) (fun cdv A outer s H vs Q E hr h => ⟨t_lawP_loop K, PSs.nox ?_, pure_lawP_loop h⟩)
  · obtain ⟨_, rfl, _⟩ := h
    rfl
  · exact (pss_cons (ps_asg (pe_tup (pa_cons (pe_dget hr.u1 (pv 0) pe_str (fun _ _ => rfl)) (pa_cons (pe_callB call_len (by rfl) T.n_len (by decide +kernel) (pa_cons (pe_dget hr.u1 (pv 0) pe_str (fun _ _ => rfl)) pa_nil)) pa_nil))) (pg_tup rfl (pgs_cons (pg_name (i := 1) sc.nd rfl (by first | exact Or.inl rfl | exact Or.inr rfl)) (pgs_cons (pg_name (i := 2) sc.nd rfl (by first | exact Or.inl rfl | exact Or.inr rfl)) pgs_nil))))
  (pss_cons (ps_set (i := 3) sc.nd rfl (by first | exact Or.inl rfl | exact Or.inr rfl) (pe_lst pa_nil))
  (pss_cons (ps_for PassesOwn.never rfl (pi_range1 (by rfl) T.n_range (pa_cons (pv 2) pa_nil)) (pg_name (i := 4) sc.nd rfl (by first | exact Or.inl rfl | exact Or.inr rfl)) (pss_one (ps_for PassesOwn.never rfl (pi_str (pe_dget hr.u1 (pv 0) pe_str (fun _ _ => rfl))) (pg_name (i := 5) sc.nd rfl (by first | exact Or.inl rfl | exact Or.inr rfl)) (pss_cons (ps_asg (pe_dget hr.u1 (pe_dget hr.u1 (pv 0) pe_str (fun _ _ => rfl)) (pe_tup (pa_cons (pv 4) (pa_cons (pv 5) pa_nil))) (fun _ _ => rfl)) (pg_tup rfl (pgs_cons (pg_name (i := 6) sc.nd rfl (by first | exact Or.inl rfl | exact Or.inr rfl)) (pgs_cons (pg_name (i := 7) sc.nd rfl (by first | exact Or.inl rfl | exact Or.inr rfl)) pgs_nil))))
  (pss_one (ps_expr (pe_bm PySem.F.plainAttrs_list PySem.F.slot_list_append PySem.F.type_list_append mt_append (pv 3) (pa_cons (pe_tup (pa_cons (pe_ix ix_list (pv 1) (pv 4) (fun _ _ => rfl)) (pa_cons (pv 5) (pa_cons (pe_ix ix_list (pv 1) (pv 6) (fun _ _ => rfl)) (pa_cons (pv 7) pa_nil))))) pa_nil))))))))
  (pss_cons (ps_setLc (i := 8) (own := [("_law_state", 4)]) (g := gName 4) (by rfl) sc.nd rfl rfl (sw_true rfl rfl rfl (by decide +kernel)) (pi_range1 (by rfl) T.n_range (pa_cons (pv 2) pa_nil)) (blkOk_by (own := [("_law_state", 4)]) (by kernel_rfl)) (fun _ _ _ _ _ => pg_name (i := 4) sc.nd rfl (Or.inl rfl)) (fun _ _ _ _ _ => pts_nil) (fun _ _ _ _ _ => (pe_tup (pa_cons (pe_ix ix_list (pv 1) (pv 4) (fun _ _ => rfl)) (pa_cons (pe_ix ix_list (pv 1) (pe_ix ix_tup (pe_ix ix_list (pe_dget hr.u1 (pv 0) pe_str (fun _ _ => rfl)) (pv 4) (fun _ _ => rfl)) pe_int (fun _ _ => rfl)) (fun _ _ => rfl)) (pa_cons (pe_ix ix_tup (pe_ix ix_list (pe_dget hr.u1 (pv 0) pe_str (fun _ _ => rfl)) (pv 4) (fun _ _ => rfl)) pe_int (fun _ _ => rfl)) pa_nil))))))
  (pss_cons (ps_set (i := 9) sc.nd rfl (by first | exact Or.inl rfl | exact Or.inr rfl) (pe_callTy call_tuple_of (by rfl) T.n_tuple (by decide +kernel) (pa_cons (pe_lc (own := [("_law_state", 4)]) (g := gName 4) (by rfl) sc.nd (pi_list (pe_dget hr.u1 (pv 0) pe_str (fun _ _ => rfl))) (blkOk_by (own := [("_law_state", 4)]) (by kernel_rfl)) (fun _ _ _ _ _ => pg_name (i := 4) sc.nd rfl (Or.inl rfl)) (fun _ _ _ _ _ => pts_nil) (fun _ _ _ _ _ => (pe_ix ix_list (pv 1) (pv 4) (fun _ _ => rfl)))) pa_nil)))
  (pss_one (ps_ret (pe_makeK (ks := ["yes"]) T.mk_Loop (ok_Loop_init T) (hr.mono (by decide)) (by rfl) T.g_Loop kbqLoop_init_5_yes pass0 (pa_cons (pe_dget hr.u1 (pv 0) pe_str (fun _ _ => rfl)) (pa_cons (pe_callTy call_tuple_of (by rfl) T.n_tuple (by decide +kernel) (pa_cons (pv 1) pa_nil)) (pa_cons (pe_callTy call_tuple_of (by rfl) T.n_tuple (by decide +kernel) (pa_cons (pv 3) pa_nil)) (pa_cons (pe_callTy call_tuple_of (by rfl) T.n_tuple (by decide +kernel) (pa_cons (pv 8) pa_nil)) pa_nil)))) (pk_cons (pv 9) pk_nil)))))))))
theorem sc_law_right : FnScope ["_law_purse_here", "_law_size", "_law_model_here", "_law_state", "_law_loop_here", "_law_signs_here", "_law_word", "_law_k", "_law_ring", "_law_times", "_law_place", "_law_near", "_law_far", "_law_top", "_law_low", "_law_high", "_law_part"] ["_law_purse_here"] (defScope st_law_right) := ⟨rfl, rfl, rfl, by decide +kernel, rfl, by decide +kernel, by decide +kernel⟩
theorem ok_law_right (T : Tx K mg) : FnOk P w K mg base CX0 7 (He.ga K "_law_right") (fdOf K (He.ga K "_law_right")) ["_law_purse_here"] (sp_law_right K) := by
  have sc := sc_law_right
  refine T.f_law_right.ok sc (fun vs H Q E h => ?_) (fun cdv A outer s H vs Q E hr h => ⟨t_law_right K, PSs.nox ?_, pure_law_right T.loopK h⟩)
  · obtain ⟨_, rfl, _⟩ := h
    rfl
  · exact (pss_cons (ps_set (i := 1) sc.nd rfl (by first | exact Or.inl rfl | exact Or.inr rfl) (pe_op op_add pe_int (pe_call (ok_lawP_pick T) (hr.mono (by decide)) (by rfl) T.g_lawP_pick T.k_lawP_pick T.b_lawP_pick .nil pass0 (pa_cons (pv 0) (pa_cons pe_int pa_nil)))))
  (pss_cons (ps_set (i := 2) sc.nd rfl (by first | exact Or.inl rfl | exact Or.inr rfl) (pe_call (ok_lawP_model T) (hr.mono (by decide)) (by rfl) T.g_lawP_model T.k_lawP_model T.b_lawP_model .nil pass0 (pa_cons (pv 0) (pa_cons (pv 1) (pa_cons (pe_call (ok_lawP_signs T) (hr.mono (by decide)) (by rfl) T.g_lawP_signs T.k_lawP_signs T.b_lawP_signs .nil pass0 (pa_cons (pv 0) (pa_cons (pe_op op_add pe_int (pe_call (ok_lawP_pick T) (hr.mono (by decide)) (by rfl) T.g_lawP_pick T.k_lawP_pick T.b_lawP_pick .nil pass0 (pa_cons (pv 0) (pa_cons pe_int pa_nil)))) pa_nil))) (pa_cons pe_bl pa_nil))))))
  (pss_cons (ps_dput hr.u1 (pv 2) pe_str (pe_lc (own := [("_law_state", 3)]) (g := gName 3) (by rfl) sc.nd (pi_range1 (by rfl) T.n_range (pa_cons (pv 1) pa_nil)) (blkOk_by (own := [("_law_state", 3)]) (by kernel_rfl)) (fun _ _ _ _ _ => pg_name (i := 3) sc.nd rfl (Or.inl rfl)) (fun _ _ _ _ _ => pts_nil) (fun _ _ _ _ _ => (pe_tup (pa_cons (pv 3) (pa_cons pe_int pa_nil))))) rfl)
  (pss_cons (ps_asg (pe_tup (pa_cons (pe_call (ok_lawP_loop T) (hr.mono (by decide)) (by rfl) T.g_lawP_loop T.k_lawP_loop T.b_lawP_loop .nil pass0 (pa_cons (pv 2) pa_nil)) (pa_cons (pe_dget hr.u1 (pv 2) pe_str (fun _ _ => rfl)) pa_nil))) (pg_tup rfl (pgs_cons (pg_name (i := 4) sc.nd rfl (by first | exact Or.inl rfl | exact Or.inr rfl)) (pgs_cons (pg_name (i := 5) sc.nd rfl (by first | exact Or.inl rfl | exact Or.inr rfl)) pgs_nil))))
  (pss_cons (ps_set (i := 6) sc.nd rfl (by first | exact Or.inl rfl | exact Or.inr rfl) (pe_join pe_str (pe_lc (own := [("_law_k", 7)]) (g := gName 7) (by rfl) sc.nd (pi_range1 (by rfl) T.n_range (pa_cons (pe_op op_add pe_int (pe_call (ok_lawP_pick T) (hr.mono (by decide)) (by rfl) T.g_lawP_pick T.k_lawP_pick T.b_lawP_pick .nil pass0 (pa_cons (pv 0) (pa_cons pe_int pa_nil)))) pa_nil)) (blkOk_by (own := [("_law_k", 7)]) (by kernel_rfl)) (fun _ _ _ _ _ => pg_name (i := 7) sc.nd rfl (Or.inl rfl)) (fun _ _ _ _ _ => pts_nil) (fun _ _ _ _ _ => (pe_ix ix_str (pv 5) (pe_call (ok_lawP_pick T) (hr.mono (by decide)) (by rfl) T.g_lawP_pick T.k_lawP_pick T.b_lawP_pick .nil pass0 (pa_cons (pv 0) (pa_cons (pe_callB call_len (by rfl) T.n_len (by decide +kernel) (pa_cons (pv 5) pa_nil)) pa_nil))) (fun _ _ => rfl))))))
  (pss_cons (ps_par3 (by rfl) sc.nd rfl rfl rfl (by decide) (by decide) (by decide) rfl rfl rfl (pa_cons (pe_make T.mk_Ring (ok_Ring_init T) (hr.mono (by decide)) (by rfl) T.g_Ring T.b_Ring_init .nil pass0 (pa_cons (pv 6) pa_nil)) (pa_cons (pe_op op_add pe_int (pe_call (ok_lawP_pick T) (hr.mono (by decide)) (by rfl) T.g_lawP_pick T.k_lawP_pick T.b_lawP_pick .nil pass0 (pa_cons (pv 0) (pa_cons pe_int pa_nil)))) (pa_cons (pe_op op_sub (pe_call (ok_lawP_pick T) (hr.mono (by decide)) (by rfl) T.g_lawP_pick T.k_lawP_pick T.b_lawP_pick .nil pass0 (pa_cons (pv 0) (pa_cons pe_int pa_nil))) pe_int) pa_nil))) (by rfl))
  (pss_cons (ps_par (by rfl) sc.nd rfl rfl (by decide) rfl rfl (pa_cons (pe_meth (pv 8) T.c_Ring T.m_Ring_turned (ok_Ring_turned T) (hr.mono (by decide)) T.b_Ring_turned .nil pass0 (pa_cons (pv 10) pa_nil)) (pa_cons (pe_meth (pe_op (op_binO_int (op := .Mult) T.bt_Ring_mul (ok_Ring_mul T) (hr.mono (by decide)) T.b_Ring_mul pass0) (pv 8) (pv 9)) T.c_Ring T.m_Ring_turned (ok_Ring_turned T) (hr.mono (by decide)) T.b_Ring_turned .nil pass0 (pa_cons (pv 10) pa_nil)) pa_nil)) (by rfl))
  (pss_cons (ps_if (PW.pt (pw_or (pt_cmpR op_ne (pv 12) (pe_op op_mulS (pv 11) (pv 9)) (nomark _)) (pw_or1 (pt_cmpR op_ne (pe_prop (pe_op (op_binO_int (op := .Mult) T.bt_Ring_mul (ok_Ring_mul T) (hr.mono (by decide)) T.b_Ring_mul pass0) (pv 8) (pv 9)) T.c_Ring T.p_Ring_period (ok_Ring_period T) (hr.mono (by decide)) T.b_Ring_period .nil pass0 rfl) (pe_prop (pv 8) T.c_Ring T.p_Ring_period (ok_Ring_period T) (hr.mono (by decide)) T.b_Ring_period .nil pass0 rfl) (nomark _))))) (pss_one (ps_ret pe_bl)) pss_nil)
  (pss_cons (ps_if (PW.pt (pw_or (pt_cmpR op_ne (pe_meth (pv 4) T.c_Loop T.m_Loop_total (ok_Loop_total T) (hr.mono (by decide)) T.b_Loop_total .nil pass0 (pa_cons (pv 11) (pa_cons (pv 9) pa_nil))) (pe_ix ix_tup (pe_ix ix_tup (pe_inst (pv 4) T.co_Loop ((ok_Loop_call T).raw T.b_Loop_call .nil) (hr.mono (by decide)) pass0 (pa_cons (pv 12) (pa_cons pe_int pa_nil))) pe_int (fun _ _ => rfl)) pe_int (fun _ _ => rfl)) (nomark _)) (pw_or1 (pt_cmpR op_ne (pe_meth (pv 4) T.c_Loop T.m_Loop_state (ok_Loop_state T) (hr.mono (by decide)) T.b_Loop_state .nil pass0 (pa_cons (pv 11) (pa_cons (pv 9) pa_nil))) (pe_meth (pv 4) T.c_Loop T.m_Loop_state (ok_Loop_state T) (hr.mono (by decide)) T.b_Loop_state .nil pass0 (pa_cons (pv 12) (pa_cons pe_int pa_nil))) (nomark _))))) (pss_one (ps_ret pe_bl)) pss_nil)
  (pss_cons (ps_asg (pe_meth (pv 4) T.c_Loop T.m_Loop_pace (ok_Loop_pace T) (hr.mono (by decide)) T.b_Loop_pace .nil pass0 (pa_cons (pv 11) pa_nil)) (pg_tup rfl (pgs_cons (pg_name (i := 13) sc.nd rfl (by first | exact Or.inl rfl | exact Or.inr rfl)) (pgs_cons (pg_name (i := 14) sc.nd rfl (by first | exact Or.inl rfl | exact Or.inr rfl)) pgs_nil))))
  (pss_cons (ps_asg (pe_meth (pv 4) T.c_Loop T.m_Loop_pace (ok_Loop_pace T) (hr.mono (by decide)) T.b_Loop_pace .nil pass0 (pa_cons (pv 12) pa_nil)) (pg_tup rfl (pgs_cons (pg_name (i := 15) sc.nd rfl (by first | exact Or.inl rfl | exact Or.inr rfl)) (pgs_cons (pg_name (i := 16) sc.nd rfl (by first | exact Or.inl rfl | exact Or.inr rfl)) pgs_nil))))
  (pss_one (ps_ret (pe_cmpR op_eq (pe_op op_mulW (pe_op op_mulW (pv 13) (pv 9)) (pv 16)) (pe_op op_mulW (pv 15) (pv 14)) (nomark _)))))))))))))))
theorem sc_law : FnScope ["_law_script", "_law_spot"] ["_law_script"] (defScope st_law) := ⟨rfl, rfl, rfl, by decide +kernel, rfl, by decide +kernel, by decide +kernel⟩
theorem ok_law (T : Tx K mg) : FnOk P w K mg base CX0 8 (He.ga K "law") (fdOf K (He.ga K "law")) ["_law_script"] (sp_law K) := by
  have sc := sc_law
  refine T.f_law.ok sc (fun vs H Q E h => ?_) (fun cdv A outer s H vs Q E hr h => ⟨t_law K, PSs.nox ?_, pure_law h⟩)
  · obtain ⟨_, _, rfl, _⟩ := h
    rfl
  · exact (pss_one (ps_ret (pe_callB (cr_all rfl) (by rfl) T.n_all (by decide +kernel) (pa_cons (pe_lc (own := [("_law_spot", 1)]) (g := gName 1) (by rfl) sc.nd (pi_range1 (by rfl) T.n_range (pa_cons (pe_callB (call_max2 rfl) (by rfl) T.n_max (by decide +kernel) (pa_cons pe_int (pa_cons (pe_callB (call_min2 rfl) (by rfl) T.n_min (by decide +kernel) (pa_cons (pe_callB call_len (by rfl) T.n_len (by decide +kernel) (pa_cons (pv 0) pa_nil)) (pa_cons pe_int pa_nil))) pa_nil))) pa_nil)) (blkOk_by (own := [("_law_spot", 1)]) (by kernel_rfl)) (fun _ _ _ _ _ => pg_name (i := 1) sc.nd rfl (Or.inl rfl)) (fun _ _ _ _ _ => pts_nil) (fun _ _ _ _ _ => (pe_call (ok_law_right T) (hr.mono (by decide)) (by rfl) T.g_law_right T.k_law_right T.b_law_right .nil pass0 (pa_cons (pe_call (ok_lawP_purse T) (hr.mono (by decide)) (by rfl) T.g_lawP_purse T.k_lawP_purse T.b_lawP_purse .nil pass0 (pa_cons (pv 0) (pa_cons (pv 1) pa_nil))) pa_nil)))) pa_nil))))
end
end WB
namespace WB
open PySem PySem.Spec PyProof.Rows L2
theorem facts {P : Program} {w : World} {K : Fr'} {h : Heap} {mg : Str → Option Value} {f : Addr} (X : K.In h) (G : h.Ns mainGlobals mg) (hfa : mg ("law" : Str) = some (.ref f)) (c : SaysW fa fn ex K) :
    ∃ fd : FuncData, (∀ (s : Shared) (v : Value), BindsTo s fd ⟨[v], []⟩ [("_law_script", v)]) ∧ ∀ base : Heap, K.In base → base.Ns mainGlobals mg → FnOk P w K mg base CX0 8 f fd ["_law_script"] (sp_law K) := by
  have T : Tx K mg := ⟨c, h, X, G⟩
  have e := hfa.symm.trans T.g_law
  cases e
  have b := FunD.bindsA (ps := ["_law_script"]) (kws := d_law.kws K) T.f_law fun _ _ _ _ _ _ us hl => match us, hl with | [_], _ => rfl
  exact ⟨_, fun s v => b s [v] rfl, fun base _ _ => ok_law T⟩
end WB
open PySem PySem.W PySem.Calls PyProof.Rows in
set_option maxRecDepth 100000 in
set_option maxHeartbeats 0 in
theorem PySem.Challenge.cw_wherebegun_k83_whole_rings_gone_several_holds : PySem.Challenge.rw_wherebegun_k83_whole_rings_gone_several.Holds := by
  w_on; o_law
  refine HandSHeadRun.head_any (r := OpenLaw.row PySem.Challenge.rw_wherebegun_k83_whole_rings_gone_several) (q := view (OpenLaw.row PySem.Challenge.rw_wherebegun_k83_whole_rings_gone_several).prog [59]) (H := WB.hk) (ob := WB.ob) (M := 20000) (loose := WB.looseN) (d := HandSHeadRun.topDef (OpenLaw.row PySem.Challenge.rw_wherebegun_k83_whole_rings_gone_several).prog 59) (kwd := []) WB.ob_eq
    (by kernel_rfl) (fun s => by kernel_rfl) WB.runH (by kernel_rfl) (by kernel_rfl) (by kernel_rfl) (by rfl) (by first | assumption | decide +kernel) (by decide +kernel) ⟨rfl, rfl, rfl, rfl, rfl, by decide +kernel⟩ ?hw ?hc
  case hw => w_witness2
  case hc =>
    refine L2.walk_ofE (l := PySem.Challenge.rw_wherebegun_k83_whole_rings_gone_several) (n := 63) (k := 8) (x := "_law_script") (CX := L2.CX0) rfl (by decide) (by kernel_rfl) ⟨rfl, by decide, by decide⟩ ?F (fun _ _ _ _ z => z)
    intro w mg fa h Y G hmg0
    obtain ⟨K, KX, c⟩ := Y
    have hmg : mg ("law" : PySem.Str) = some (.ref fa) := by
      have e : (HandSHeadRun.topDef (OpenLaw.row PySem.Challenge.rw_wherebegun_k83_whole_rings_gone_several).prog 59).name = ("law" : PySem.Str) := by kernel_rfl
      rw [← e]
      exact hmg0
    obtain ⟨fd, hb, hF⟩ := WB.facts (P := (PySem.Challenge.rw_wherebegun_k83_whole_rings_gone_several).prog) (w := w) KX G hmg c
    exact ⟨K, fd, WB.sp_law K, KX, hb, fun H a ns hl _ hS => ⟨a, ns, rfl, hS, hl, fun _ => rfl⟩, hF⟩
